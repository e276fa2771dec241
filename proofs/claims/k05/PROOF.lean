import PyProof.Rows.All
import Wide.All
import OpenK.AllK
import Wide.FinOn
import HandS.ForMost
import HandS.ForExc
import HandS.Walk
import HandS.IsInst
import HandS.WideBits
import HandS.Wide
import HandS.ExcInit
import HandS.ExcField
import HandS.ExcIs
import HandS.CallSlots
import HandS.TryMany
import HandS.WordsExc
import KE.KExcIs
import HandS.Text
import PySem.Challenge.RW_spareplank_k05_symbols_and_blocks
set_option Elab.async false
set_option maxRecDepth 100000
set_option maxHeartbeats 4000000
/-! VC: readings of the hand layer over typed plain values. Γ tells by slot what the locals hold. -/
namespace VC
open PySem PySem.Spec L2

/-! ### typed values -/
structure Ty (α : Type) where
  rep : Hp → V → α → Prop
  mono : ∀ {H H' : Hp} {v : V} {x : α}, Same H H' → rep H v x → rep H' v x
def tInt : Ty Int := ⟨fun _ v x => v = .int x, fun _ h => h⟩
def tBool : Ty Bool := ⟨fun _ v x => v = .bl x, fun _ h => h⟩
def tStr : Ty Str := ⟨fun _ v x => v = .str x, fun _ h => h⟩
def tNon : Ty Unit := ⟨fun _ v _ => v = .non, fun _ h => h⟩
def tOpt {α : Type} (τ : Ty α) : Ty (Option α) := ⟨fun H v x => match x with | none => v = .non | some y => v ≠ .non ∧ τ.rep H v y, fun {H H' v x} s h => by
  cases x with
  | none => exact h
  | some y => exact ⟨h.1, τ.mono s h.2⟩⟩
theorem Paired.up {α : Type} {τ : Ty α} {H H' : Hp} (s : Same H H') : ∀ {vs : List V} {xs : List α}, Paired (τ.rep H) vs xs → Paired (τ.rep H') vs xs
  | _, _, .nil => .nil
  | _, _, .cons a t => .cons (τ.mono s a) (Paired.up s t)
def tList {α : Type} (τ : Ty α) : Ty (List α) := ⟨fun H v xs => ∃ a vs, v = .ref a ∧ H a = some (.lst vs) ∧ Paired (τ.rep H) vs xs, fun s ⟨a, vs, e, h, p⟩ => ⟨a, vs, e, s _ _ h, Paired.up s p⟩⟩
def tTup2 {α β : Type} (τ : Ty α) (υ : Ty β) : Ty (α × β) := ⟨fun H v x => ∃ a v1 v2, v = .ref a ∧ H a = some (.tup [v1, v2]) ∧ τ.rep H v1 x.1 ∧ υ.rep H v2 x.2,
  fun s ⟨a, v1, v2, e, h, p, q⟩ => ⟨a, v1, v2, e, s _ _ h, τ.mono s p, υ.mono s q⟩⟩
/-- the script -/
def tScr (K : PySem.W.Frag) : Ty (List Int) := ⟨fun H v ns => ∃ a, v = .ref a ∧ SqL K H a (ns.map V.int), fun s ⟨a, e, h⟩ => ⟨a, e, Same.seq s h⟩⟩

theorem paired_len {α β : Type} {F : α → β → Prop} : ∀ {l : List α} {m : List β}, Paired F l m → l.length = m.length
  | _, _, .nil => rfl
  | _, _, .cons _ t => by simp [paired_len t]
theorem paired_get {α β : Type} {F : α → β → Prop} : ∀ {l : List α} {m : List β} {i : Nat} {x : α}, Paired F l m → l[i]? = some x → ∃ y, m[i]? = some y ∧ F x y
  | _, _, 0, _, .cons a _, e => by
    simp at e
    subst e
    exact ⟨_, rfl, a⟩
  | _, _, i + 1, x, .cons _ t, e => by
    obtain ⟨y, h1, h2⟩ := paired_get (i := i) (x := x) t (by simpa using e)
    exact ⟨y, by simpa using h1, h2⟩
theorem paired_get' {α β : Type} {F : α → β → Prop} : ∀ {l : List α} {m : List β} {i : Nat} {y : β}, Paired F l m → m[i]? = some y → ∃ x, l[i]? = some x ∧ F x y
  | _, _, 0, _, .cons a _, e => by
    simp at e
    subst e
    exact ⟨_, rfl, a⟩
  | _, _, i + 1, y, .cons _ t, e => by
    obtain ⟨x, h1, h2⟩ := paired_get' (i := i) (y := y) t (by simpa using e)
    exact ⟨x, by simpa using h1, h2⟩
theorem paired_app {α β : Type} {F : α → β → Prop} : ∀ {l l' : List α} {m m' : List β}, Paired F l m → Paired F l' m' → Paired F (l ++ l') (m ++ m')
  | _, _, _, _, .nil, q => q
  | _, _, _, _, .cons a t, q => .cons a (paired_app t q)
theorem paired_set {α β : Type} {F : α → β → Prop} {x : α} {y : β} (r : F x y) : ∀ {l : List α} {m : List β} (i : Nat), Paired F l m → Paired F (l.set i x) (m.set i y)
  | _, _, _, .nil => .nil
  | _, _, 0, .cons _ t => .cons r t
  | _, _, i + 1, .cons q t => .cons q (paired_set r i t)
theorem paired_take {α β : Type} {F : α → β → Prop} : ∀ {l : List α} {m : List β} (n : Nat), Paired F l m → Paired F (l.take n) (m.take n)
  | _, _, 0, _ => .nil
  | _, _, _ + 1, .nil => .nil
  | _, _, n + 1, .cons r t => .cons r (paired_take n t)
theorem paired_drop {α β : Type} {F : α → β → Prop} : ∀ {l : List α} {m : List β} (n : Nat), Paired F l m → Paired F (l.drop n) (m.drop n)
  | _, _, 0, r => r
  | _, _, _ + 1, .nil => .nil
  | _, _, n + 1, .cons _ t => paired_drop n t
theorem paired_rep {α β : Type} {F : α → β → Prop} {x : α} {y : β} (r : F x y) : ∀ n : Nat, Paired F (List.replicate n x) (List.replicate n y)
  | 0 => .nil
  | n + 1 => .cons r (paired_rep r n)
theorem paired_int {H : Hp} : ∀ {vs : List V} {ns : List Int}, Paired (tInt.rep H) vs ns → vs = ns.map V.int
  | _, _, .nil => rfl
  | _, _, .cons e t => by
    have e : _ = V.int _ := e
    rw [e, paired_int t]
    rfl
theorem int_paired {H : Hp} : ∀ {ns : List Int}, Paired (tInt.rep H) (ns.map V.int) ns
  | [] => .nil
  | _ :: _ => .cons rfl int_paired
theorem paired_bl {H : Hp} : ∀ {vs : List V} {ns : List Bool}, Paired (tBool.rep H) vs ns → vs = ns.map V.bl
  | _, _, .nil => rfl
  | _, _, .cons e t => by
    have e : _ = V.bl _ := e
    rw [e, paired_bl t]
    rfl

/-! ### heaps: Hv is what stands still, H all -/
structure Grow (Hv H Hv' H' : Hp) : Prop where
  s : Same H H'
  v : Same Hv Hv'
  vis : Same Hv' H'
  nw : ∀ b, H b ≠ none → Hv b = none → Hv' b = none
theorem Grow.refl {Hv H : Hp} (h : Same Hv H) : Grow Hv H Hv H := ⟨Same.refl _, Same.refl _, h, fun _ _ h => h⟩
theorem Same.some_ne {H H' : Hp} (s : Same H H') {b : Addr} (h : H b ≠ none) : H' b ≠ none := by
  cases e : H b with
  | none => exact absurd e h
  | some o =>
    rw [s _ _ e]
    exact fun z => nomatch z
theorem Grow.trans {A B C D E F : Hp} (g : Grow A B C D) (h : Grow C D E F) : Grow A B E F :=
  ⟨Same.trans g.s h.s, Same.trans g.v h.v, h.vis, fun b n z => h.nw b (Same.some_ne g.s n) (g.nw b n z)⟩
theorem same_upd {H : Hp} {p : Addr} {o : HO} (h : H p = none) : Same H (upd H p o) := fun b u e => by
  rw [upd_ne (ne_of_none e h)]
  exact e
theorem same_upd2 {H H' : Hp} {p : Addr} {o : HO} (s : Same H H') : Same (upd H p o) (upd H' p o) := fun b u e => by
  by_cases hb : b = p
  · subst hb
    rw [upd_same] at e ⊢
    exact e
  · rw [upd_ne hb] at e ⊢
    exact s _ _ e
theorem same_updR {H H' : Hp} {p : Addr} {o : HO} (s : Same H H') (h : H p = none) : Same H (upd H' p o) := fun b u e => by
  rw [upd_ne (ne_of_none e h)]
  exact s _ _ e
/-- a new thing, seen at once -/
theorem Grow.new {Hv H : Hp} {p : Addr} {o : HO} (vis : Same Hv H) (h : H p = none) : Grow Hv H (upd Hv p o) (upd H p o) :=
  ⟨same_upd h, same_upd (Same.free vis h), same_upd2 vis, fun b n z => by
    have hb : b ≠ p := fun q => n (q ▸ h)
    rw [upd_ne hb]
    exact z⟩
/-- a new thing, not seen -/
theorem Grow.newO {Hv H : Hp} {p : Addr} {o : HO} (vis : Same Hv H) (h : H p = none) : Grow Hv H Hv (upd H p o) :=
  ⟨same_upd h, Same.refl _, same_updR vis (Same.free vis h), fun _ _ z => z⟩
/-- a thing that is there is seen from now on -/
theorem Grow.see {Hv H : Hp} {p : Addr} {o : HO} (vis : Same Hv H) (h : H p = some o) (hv : Hv p = none) : Same Hv (upd Hv p o) ∧ Same (upd Hv p o) H :=
  ⟨same_upd hv, fun b u e => by
    by_cases hb : b = p
    · subst hb
      rw [upd_same] at e
      cases e
      exact h
    · rw [upd_ne hb] at e
      exact vis _ _ e⟩

/-! ### contexts -/
/-- arguments -/
structure As : Type 1 where
  {α : Type}
  τ : Ty α
  x : α
inductive FsRep (H : Hp) : List (Str × V) → List (Str × As) → Prop
  | nil : FsRep H [] []
  | cons {n : Str} {v : V} {fs : List (Str × V)} {a : As} {as : List (Str × As)} : a.τ.rep H v a.x → FsRep H fs as → FsRep H ((n, v) :: fs) ((n, a) :: as)
theorem FsRep.up {H H' : Hp} (s : Same H H') {fs : List (Str × V)} {as : List (Str × As)} (h : FsRep H fs as) : FsRep H' fs as := by
  induction h with
  | nil => exact .nil
  | cons r _ ih => exact .cons (Ty.mono _ s r) ih
inductive Ent : Type 1
  | fz {α : Type} (τ : Ty α) (x : α)
  | cl {α : Type} (τ : Ty α) (xs : List α)
  | gh {α : Type} (v : V) (τ : Ty α) (x : α)
  | ob (x dx C : Addr) (as : List (Str × As))
def Ent.isCl : Ent → Bool
  | .cl _ _ => true
  | .ob _ _ _ _ => true
  | _ => false
def EntOk (σ : St) (Hv H : Hp) (i : Nat) : Ent → Prop
  | .fz τ x => ∃ v, σ[i]? = some (some v) ∧ τ.rep Hv v x
  | .cl τ xs => ∃ l vs, σ[i]? = some (some (.ref l)) ∧ H l = some (.lst vs) ∧ Hv l = none ∧ Paired (τ.rep Hv) vs xs
  | .gh v τ x => τ.rep Hv v x
  | .ob x dx C as => ∃ fs, σ[i]? = some (some (.ref x)) ∧ H x = some (.ins C dx fs) ∧ Hv x = none ∧ FsRep Hv fs as
abbrev Cxt := List (Nat × Ent)
def get (i : Nat) : Cxt → Option Ent
  | [] => none
  | (j, e) :: Γ => bif Nat.beq j i then some e else get i Γ
def del (i : Nat) : Cxt → Cxt
  | [] => []
  | (j, e) :: Γ => bif Nat.beq j i then del i Γ else (j, e) :: del i Γ
def put (i : Nat) (e : Ent) (Γ : Cxt) : Cxt := (i, e) :: del i Γ
theorem get_mem {i : Nat} {e : Ent} : ∀ {Γ : Cxt}, get i Γ = some e → (i, e) ∈ Γ
  | [], h => nomatch h
  | (j, f) :: Γ, h => by
    unfold get at h
    cases q : Nat.beq j i with
    | true =>
      rw [q] at h
      have e1 : some f = some e := h
      cases e1
      have := Nat.eq_of_beq_eq_true q
      subst this
      exact List.mem_cons_self
    | false =>
      rw [q] at h
      exact List.mem_cons_of_mem _ (get_mem h)
theorem del_mem {i j : Nat} {e : Ent} : ∀ {Γ : Cxt}, (j, e) ∈ del i Γ → j ≠ i ∧ (j, e) ∈ Γ
  | (k, f) :: Γ, h => by
    unfold del at h
    cases q : Nat.beq k i with
    | true =>
      rw [q] at h
      have z := del_mem (Γ := Γ) h
      exact ⟨z.1, List.mem_cons_of_mem _ z.2⟩
    | false =>
      rw [q] at h
      rcases List.mem_cons.mp h with h | h
      · cases h
        exact ⟨Nat.ne_of_beq_eq_false q, List.mem_cons_self⟩
      · have z := del_mem (Γ := Γ) h
        exact ⟨z.1, List.mem_cons_of_mem _ z.2⟩
theorem put_mem {i j : Nat} {e f : Ent} {Γ : Cxt} (h : (j, f) ∈ put i e Γ) : (j = i ∧ f = e) ∨ (j ≠ i ∧ (j, f) ∈ Γ) := by
  rcases List.mem_cons.mp h with h | h
  · cases h
    exact .inl ⟨rfl, rfl⟩
  · exact .inr (del_mem h)

/-! ### the base: what stood at the entry; own: what may be changed of it -/
structure Bs where
  H0 : Hp
  Hv0 : Hp
  own : Addr → Prop
  n : Nat
structure Wd (B : Bs) (Γ : Cxt) (σ : St) (Hv H : Hp) : Prop where
  len : σ.length = B.n
  vis : Same Hv H
  s0 : ∀ b o, ¬ B.own b → B.H0 b = some o → H b = some o
  a0 : ∀ b, B.H0 b ≠ none → H b ≠ none
  v0 : Same B.Hv0 Hv
  nw : ∀ b, ¬ B.own b → B.H0 b ≠ none → B.Hv0 b = none → Hv b = none
  ent : ∀ i e, (i, e) ∈ Γ → EntOk σ Hv H i e
  new : ∀ i e l, (i, e) ∈ Γ → e.isCl = true → σ[i]? = some (some (.ref l)) → B.H0 l = none ∨ B.own l
  dis : ∀ i j e f l, (i, e) ∈ Γ → (j, f) ∈ Γ → e.isCl = true → f.isCl = true → i ≠ j → σ[i]? = some (some (.ref l)) → σ[j]? = some (some (.ref l)) → False
section
variable {B : Bs} {Γ : Cxt} {σ : St} {Hv H Hv' H' : Hp}
theorem EntOk.grow {i : Nat} {e : Ent} (g : Grow Hv H Hv' H') (h : EntOk σ Hv H i e) : EntOk σ Hv' H' i e := by
  cases e with
  | fz τ x =>
    obtain ⟨v, h1, h2⟩ := h
    exact ⟨v, h1, τ.mono g.v h2⟩
  | cl τ xs =>
    obtain ⟨l, vs, h1, h2, h3, h4⟩ := h
    exact ⟨l, vs, h1, g.s _ _ h2, g.nw _ (by rw [h2]; exact fun z => nomatch z) h3, Paired.up g.v h4⟩
  | gh v τ x => exact τ.mono g.v h
  | ob x dx C as =>
    obtain ⟨fs, h1, h2, h3, h4⟩ := h
    exact ⟨fs, h1, g.s _ _ h2, g.nw _ (by rw [h2]; exact fun z => nomatch z) h3, h4.up g.v⟩
theorem Wd.grow (w : Wd B Γ σ Hv H) (g : Grow Hv H Hv' H') : Wd B Γ σ Hv' H' where
  len := w.len
  vis := g.vis
  s0 := fun b o n e => g.s _ _ (w.s0 b o n e)
  a0 := fun b n => Same.some_ne g.s (w.a0 b n)
  v0 := Same.trans w.v0 g.v
  nw := fun b no n z => g.nw b (w.a0 b n) (w.nw b no n z)
  ent := fun i e m => (w.ent i e m).grow g
  new := w.new
  dis := w.dis
/-- fewer facts -/
theorem Wd.sub {Δ : Cxt} (w : Wd B Γ σ Hv H) (h : ∀ p ∈ Δ, p ∈ Γ) : Wd B Δ σ Hv H where
  len := w.len
  vis := w.vis
  s0 := w.s0
  a0 := w.a0
  v0 := w.v0
  nw := w.nw
  ent := fun i e m => w.ent i e (h _ m)
  new := fun i e l m => w.new i e l (h _ m)
  dis := fun i j e f l m m' => w.dis i j e f l (h _ m) (h _ m')
/-- a slot takes a value that stands still -/
theorem Wd.put {α : Type} {τ : Ty α} {x : α} {v : V} (w : Wd B Γ σ Hv H) (i : Nat) (hi : i < B.n) (r : τ.rep Hv v x) : Wd B (put i (.fz τ x) Γ) (σ.set i (some v)) Hv H where
  len := by rw [List.length_set]; exact w.len
  vis := w.vis
  s0 := w.s0
  a0 := w.a0
  v0 := w.v0
  nw := w.nw
  ent := fun j e m => by
    rcases put_mem m with ⟨rfl, rfl⟩ | ⟨hj, m⟩
    · exact ⟨v, by rw [List.getElem?_set_self (by rw [w.len]; exact hi)], r⟩
    · have z := w.ent j e m
      cases e with
      | fz => obtain ⟨u, h1, h2⟩ := z; exact ⟨u, by rw [List.getElem?_set_ne (Ne.symm hj)]; exact h1, h2⟩
      | cl => obtain ⟨l, vs, h1, h2⟩ := z; exact ⟨l, vs, by rw [List.getElem?_set_ne (Ne.symm hj)]; exact h1, h2⟩
      | gh => exact z
      | ob => obtain ⟨fs, h1, h2⟩ := z; exact ⟨fs, by rw [List.getElem?_set_ne (Ne.symm hj)]; exact h1, h2⟩
  new := fun j e l m c s => by
    rcases put_mem m with ⟨rfl, rfl⟩ | ⟨hj, m⟩
    · cases c
    · rw [List.getElem?_set_ne (Ne.symm hj)] at s
      exact w.new j e l m c s
  dis := fun j k e f l m m' c c' n s s' => by
    rcases put_mem m with ⟨rfl, rfl⟩ | ⟨hj, m⟩
    · cases c
    · rcases put_mem m' with ⟨rfl, rfl⟩ | ⟨hk, m'⟩
      · cases c'
      · rw [List.getElem?_set_ne (Ne.symm hj)] at s
        rw [List.getElem?_set_ne (Ne.symm hk)] at s'
        exact w.dis j k e f l m m' c c' n s s'
/-- a list of one's own at l: new, and no other slot's -/
structure Own (B : Bs) (Γ : Cxt) (σ : St) (Hv H : Hp) (l : Addr) (vs : List V) : Prop where
  at_ : H l = some (.lst vs)
  hid : Hv l = none
  new : B.H0 l = none ∨ B.own l
  dis : ∀ i e, (i, e) ∈ Γ → e.isCl = true → σ[i]? = some (some (.ref l)) → False
theorem Wd.putO {α : Type} {τ : Ty α} {xs : List α} {l : Addr} {vs : List V} (w : Wd B Γ σ Hv H) (i : Nat) (hi : i < B.n) (o : Own B Γ σ Hv H l vs) (r : Paired (τ.rep Hv) vs xs) : Wd B (VC.put i (.cl τ xs) Γ) (σ.set i (some (.ref l))) Hv H where
  len := by rw [List.length_set]; exact w.len
  vis := w.vis
  s0 := w.s0
  a0 := w.a0
  v0 := w.v0
  nw := w.nw
  ent := fun j e m => by
    rcases put_mem m with ⟨rfl, rfl⟩ | ⟨hj, m⟩
    · exact ⟨l, vs, by rw [List.getElem?_set_self (by rw [w.len]; exact hi)], o.at_, o.hid, r⟩
    · have z := w.ent j e m
      cases e with
      | fz => obtain ⟨u, h1, h2⟩ := z; exact ⟨u, by rw [List.getElem?_set_ne (Ne.symm hj)]; exact h1, h2⟩
      | cl => obtain ⟨l, vs, h1, h2⟩ := z; exact ⟨l, vs, by rw [List.getElem?_set_ne (Ne.symm hj)]; exact h1, h2⟩
      | gh => exact z
      | ob => obtain ⟨fs, h1, h2⟩ := z; exact ⟨fs, by rw [List.getElem?_set_ne (Ne.symm hj)]; exact h1, h2⟩
  new := fun j e k m c s => by
    rcases put_mem m with ⟨rfl, rfl⟩ | ⟨hj, m⟩
    · rw [List.getElem?_set_self (by rw [w.len]; exact hi)] at s
      cases s
      exact o.new
    · rw [List.getElem?_set_ne (Ne.symm hj)] at s
      exact w.new j e k m c s
  dis := fun j k e f q m m' c c' n s s' => by
    rcases put_mem m with ⟨rfl, rfl⟩ | ⟨hj, mm⟩
    · rw [List.getElem?_set_self (by rw [w.len]; exact hi)] at s
      cases s
      rcases put_mem m' with ⟨rfl, rfl⟩ | ⟨hk, m'⟩
      · exact n rfl
      · rw [List.getElem?_set_ne (Ne.symm hk)] at s'
        exact o.dis k f m' c' s'
    · rw [List.getElem?_set_ne (Ne.symm hj)] at s
      rcases put_mem m' with ⟨rfl, rfl⟩ | ⟨hk, m'⟩
      · rw [List.getElem?_set_self (by rw [w.len]; exact hi)] at s'
        cases s'
        exact o.dis j e mm c s
      · rw [List.getElem?_set_ne (Ne.symm hk)] at s'
        exact w.dis j k e f q mm m' c c' n s s'
/-- a list of one's own is changed -/
theorem Wd.chg {α : Type} {τ : Ty α} {xs ys : List α} {l : Addr} {ws : List V} (w : Wd B Γ σ Hv H) (i : Nat) (m : (i, .cl τ xs) ∈ Γ) (hs : σ[i]? = some (some (.ref l))) (r : Paired (τ.rep Hv) ws ys) : Wd B (VC.put i (.cl τ ys) Γ) σ Hv (upd H l (.lst ws)) := by
  obtain ⟨l', vs, e1, e2, e3, _⟩ := w.ent i _ m
  rw [hs] at e1
  cases e1
  have nv : ∀ b o, Hv b = some o → b ≠ l := fun b o e q => by
    subst q
    rw [e3] at e
    cases e
  have nl := w.new i _ l m rfl hs
  refine ⟨w.len, fun b o e => ?_, fun b o n e => ?_, fun b n => ?_, w.v0, w.nw, fun j e m' => ?_, fun j e k m' c s => ?_, fun j k e f q m1 m2 c1 c2 n s1 s2 => ?_⟩
  · rw [upd_ne (nv b o e)]
    exact w.vis _ _ e
  · have hb : b ≠ l := fun q => by
      subst q
      rcases nl with z | z
      · rw [z] at e
        cases e
      · exact n z
    rw [upd_ne hb]
    exact w.s0 b o n e
  · by_cases hb : b = l
    · subst hb
      rw [upd_same]
      exact fun z => nomatch z
    · rw [upd_ne hb]
      exact w.a0 b n
  · rcases put_mem m' with ⟨rfl, rfl⟩ | ⟨hj, m'⟩
    · exact ⟨l, ws, hs, upd_same, e3, r⟩
    · have z := w.ent j e m'
      cases e with
      | fz => exact z
      | gh => exact z
      | cl τ' zs =>
        obtain ⟨k, us, h1, h2, h3, h4⟩ := z
        refine ⟨k, us, h1, ?_, h3, h4⟩
        rw [upd_ne fun q => w.dis i j _ _ l m m' rfl rfl (Ne.symm hj) hs (by rw [h1, q])]
        exact h2
      | ob k dx C as =>
        obtain ⟨fs, h1, h2, h3, h4⟩ := z
        refine ⟨fs, h1, ?_, h3, h4⟩
        rw [upd_ne fun q => w.dis i j _ _ l m m' rfl rfl (Ne.symm hj) hs (by rw [h1, q])]
        exact h2
  · rcases put_mem m' with ⟨rfl, rfl⟩ | ⟨hj, m'⟩
    · exact w.new j _ k m rfl s
    · exact w.new j e k m' c s
  · rcases put_mem m1 with ⟨rfl, rfl⟩ | ⟨hj, mm⟩
    · rcases put_mem m2 with ⟨rfl, rfl⟩ | ⟨hk, m2⟩
      · exact n rfl
      · exact w.dis j k _ f q m m2 rfl c2 n s1 s2
    · rcases put_mem m2 with ⟨rfl, rfl⟩ | ⟨hk, m2⟩
      · exact w.dis j k e _ q mm m c1 rfl n s1 s2
      · exact w.dis j k e f q mm m2 c1 c2 n s1 s2
/-- a list of one's own is left as it is from now on -/
theorem Wd.freeze {α : Type} {τ : Ty α} {xs : List α} (w : Wd B Γ σ Hv H) (i : Nat) (m : (i, .cl τ xs) ∈ Γ) : ∃ Hv', Same Hv Hv' ∧ Wd B (VC.put i (.fz (tList τ) xs) Γ) σ Hv' H := by
  obtain ⟨l, vs, e1, e2, e3, e4⟩ := w.ent i _ m
  obtain ⟨s1, s2⟩ := Grow.see w.vis e2 e3
  refine ⟨upd Hv l (.lst vs), s1, w.len, s2, w.s0, w.a0, Same.trans w.v0 s1, fun b no n z => ?_, fun j e m' => ?_, fun j e k m' c s => ?_, fun j k e f q m1 m2 c1 c2 n t1 t2 => ?_⟩
  · have hb : b ≠ l := fun q => by
      subst q
      rcases w.new i _ b m rfl e1 with y | y
      · exact n y
      · exact no y
    rw [upd_ne hb]
    exact w.nw b no n z
  · rcases put_mem m' with ⟨rfl, rfl⟩ | ⟨hj, m'⟩
    · exact ⟨.ref l, e1, l, vs, rfl, upd_same, Paired.up s1 e4⟩
    · have z := w.ent j e m'
      cases e with
      | fz τ' x => obtain ⟨u, h1, h2⟩ := z; exact ⟨u, h1, τ'.mono s1 h2⟩
      | gh v τ' x => exact τ'.mono s1 z
      | cl τ' zs =>
        obtain ⟨k, us, h1, h2, h3, h4⟩ := z
        refine ⟨k, us, h1, h2, ?_, Paired.up s1 h4⟩
        rw [upd_ne fun q => w.dis i j _ _ l m m' rfl rfl (Ne.symm hj) e1 (by rw [h1, q])]
        exact h3
      | ob k dx C as =>
        obtain ⟨fs, h1, h2, h3, h4⟩ := z
        refine ⟨fs, h1, h2, ?_, h4.up s1⟩
        rw [upd_ne fun q => w.dis i j _ _ l m m' rfl rfl (Ne.symm hj) e1 (by rw [h1, q])]
        exact h3
  · rcases put_mem m' with ⟨rfl, rfl⟩ | ⟨hj, m'⟩
    · cases c
    · exact w.new j e k m' c s
  · rcases put_mem m1 with ⟨rfl, rfl⟩ | ⟨hj, m1⟩
    · cases c1
    · rcases put_mem m2 with ⟨rfl, rfl⟩ | ⟨hk, m2⟩
      · cases c2
      · exact w.dis j k e f q m1 m2 c1 c2 n t1 t2
end
end VC

set_option Elab.async false
set_option maxRecDepth 100000
set_option maxHeartbeats 4000000
namespace VC
open PySem PySem.Spec L2

section
variable {B : Bs} {Γ : Cxt} {α β γ δ : Type} {τ : Ty α} {υ : Ty β} {φ : Ty γ} {x : α} {y : β} {z : γ}

/-! ### judgements over readings -/
/-- a value that stands still -/
def Sm (B : Bs) (Γ : Cxt) (t : TE) (τ : Ty α) (x : α) : Prop := ∀ (σ : L2.St) (Hv H : Hp), Wd B Γ σ Hv H → ∀ Q : VK, (∀ v Hv' H', Grow Hv H Hv' H' → τ.rep Hv' v x → Q v H') → t σ H Q
/-- a test -/
def SmT (B : Bs) (Γ : Cxt) (t : TT) (b : Bool) : Prop := ∀ (σ : L2.St) (Hv H : Hp), Wd B Γ σ Hv H → ∀ Q : Bool → Hp → Prop, (∀ Hv' H', Grow Hv H Hv' H' → Q b H') → t σ H Q
/-- a new list -/
def SmO (B : Bs) (Γ : Cxt) (t : TE) (τ : Ty α) (xs : List α) : Prop := ∀ (σ : L2.St) (Hv H : Hp), Wd B Γ σ Hv H → ∀ Q : VK,
  (∀ l vs Hv' H', Grow Hv H Hv' H' → H l = none → H' l = some (.lst vs) → Hv' l = none → Paired (τ.rep Hv') vs xs → Q (.ref l) H') → t σ H Q
/-- a list that is read -/
def SmL (B : Bs) (Γ : Cxt) (t : TE) (τ : Ty α) (xs : List α) : Prop := ∀ (σ : L2.St) (Hv H : Hp), Wd B Γ σ Hv H → ∀ Q : VK,
  (∀ a vs Hv' H', Grow Hv H Hv' H' → H' a = some (.lst vs) → Paired (τ.rep Hv') vs xs → Q (.ref a) H') → t σ H Q
inductive Reps (Hv : Hp) : List V → List As → Prop
  | nil : Reps Hv [] []
  | cons {v : V} {vs : List V} {a : As} {as : List As} : a.τ.rep Hv v a.x → Reps Hv vs as → Reps Hv (v :: vs) (a :: as)
theorem Reps.up {H H' : Hp} (s : Same H H') {vs : List V} {as : List As} (h : Reps H vs as) : Reps H' vs as := by
  induction h with
  | nil => exact .nil
  | cons r _ ih => exact .cons (Ty.mono _ s r) ih
def SmA (B : Bs) (Γ : Cxt) (t : TA) (as : List As) : Prop := ∀ (σ : L2.St) (Hv H : Hp), Wd B Γ σ Hv H → ∀ Q : List V → Hp → Prop, (∀ vs Hv' H', Grow Hv H Hv' H' → Reps Hv' vs as → Q vs H') → t σ H Q

theorem Sm.cast {t : TE} {x' : α} (h : Sm B Γ t τ x) (e : x = x') : Sm B Γ t τ x' := e ▸ h
theorem SmT.cast {t : TT} {b b' : Bool} (h : SmT B Γ t b) (e : b = b') : SmT B Γ t b' := e ▸ h
theorem SmO.cast {t : TE} {xs xs' : List α} (h : SmO B Γ t τ xs) (e : xs = xs') : SmO B Γ t τ xs' := e ▸ h

theorem sma_nil : SmA B Γ tNil [] := fun _ _ _ w _ k => k _ _ _ (Grow.refl w.vis) .nil
theorem sma_cons {ta : TE} {tr : TA} {as : List As} (ha : Sm B Γ ta τ x) (hr : SmA B Γ tr as) : SmA B Γ (tCons ta tr) (⟨τ, x⟩ :: as) := fun σ Hv H w Q k =>
  ha σ Hv H w _ fun v Hv1 H1 g1 r1 => hr σ Hv1 H1 (w.grow g1) _ fun vs Hv2 H2 g2 r2 => k _ _ _ (g1.trans g2) (.cons (τ.mono g2.v r1) r2)

/-! ### own, still, read -/
theorem Sm.of_own {t : TE} {xs : List α} (h : SmO B Γ t τ xs) : Sm B Γ t (tList τ) xs := fun σ Hv H w Q k => h σ Hv H w Q fun l vs Hv' H' g h0 h1 h2 r => by
  obtain ⟨s1, s2⟩ := Grow.see g.vis h1 h2
  refine k _ (upd Hv' l (.lst vs)) H' ⟨g.s, Same.trans g.v s1, s2, fun b n z => ?_⟩ ⟨l, vs, rfl, upd_same, Paired.up s1 r⟩
  have hb : b ≠ l := fun q => n (q ▸ h0)
  rw [upd_ne hb]
  exact g.nw b n z
theorem SmL.of {t : TE} {xs : List α} (h : Sm B Γ t (tList τ) xs) : SmL B Γ t τ xs := fun σ Hv H w Q k => h σ Hv H w Q fun v Hv' H' g r => by
  obtain ⟨a, vs, rfl, e, p⟩ := r
  exact k _ _ _ _ g (g.vis _ _ e) p
theorem SmL.of_own {t : TE} {xs : List α} (h : SmO B Γ t τ xs) : SmL B Γ t τ xs := SmL.of (Sm.of_own h)

/-! ### names and constants -/
theorem sm_var {i : Nat} (h : get i Γ = some (.fz τ x)) : Sm B Γ (tVar i) τ x := fun σ Hv H w Q k => by
  obtain ⟨v, e, r⟩ := w.ent i _ (get_mem h)
  exact ⟨v, e, k _ _ _ (Grow.refl w.vis) r⟩
theorem sml_cell {i : Nat} {xs : List α} (h : get i Γ = some (.cl τ xs)) : SmL B Γ (tVar i) τ xs := fun σ Hv H w Q k => by
  obtain ⟨l, vs, e, h1, h2, r⟩ := w.ent i _ (get_mem h)
  exact ⟨_, e, k _ _ _ _ (Grow.refl w.vis) h1 r⟩
theorem sml_var {i : Nat} {xs : List α} (h : get i Γ = some (.fz (tList τ) xs)) : SmL B Γ (tVar i) τ xs := SmL.of (sm_var h)
theorem sm_int {n : Int} : Sm B Γ (tC (.int n)) tInt n := fun _ _ _ w _ k => k _ _ _ (Grow.refl w.vis) rfl
theorem sm_bl {b : Bool} : Sm B Γ (tC (.bl b)) tBool b := fun _ _ _ w _ k => k _ _ _ (Grow.refl w.vis) rfl
theorem sm_str {s : Str} : Sm B Γ (tC (.str s)) tStr s := fun _ _ _ w _ k => k _ _ _ (Grow.refl w.vis) rfl
theorem sm_non : Sm B Γ (tC .non) tNon () := fun _ _ _ w _ k => k _ _ _ (Grow.refl w.vis) rfl
theorem sm_none : Sm B Γ (tC .non) (tOpt τ) none := fun _ _ _ w _ k => k _ _ _ (Grow.refl w.vis) rfl

/-! ### operators -/
def OpV (r : R2) (τ : Ty α) (υ : Ty β) (φ : Ty γ) (x : α) (y : β) (z : γ) : Prop := ∀ (Hv H : Hp) (v w : V), Same Hv H → τ.rep Hv v x → υ.rep Hv w y → ∀ Q : VK, (∀ u Hv' H', Grow Hv H Hv' H' → φ.rep Hv' u z → Q u H') → r v w H Q
theorem sm_op {r : R2} {ta tb : TE} (ha : Sm B Γ ta τ x) (hb : Sm B Γ tb υ y) (o : OpV r τ υ φ x y z) : Sm B Γ (tOp r ta tb) φ z := fun σ Hv H w Q k =>
  ha σ Hv H w _ fun v Hv1 H1 g1 r1 => hb σ Hv1 H1 (w.grow g1) _ fun u Hv2 H2 g2 r2 => o Hv2 H2 v u g2.vis (τ.mono g2.v r1) r2 Q fun u' Hv3 H3 g3 r3 => k _ _ _ ((g1.trans g2).trans g3) r3
theorem ov_I0 {g : Int → Int → V} {i j : Int} (h : ∀ H, φ.rep H (g i j) z) : OpV (rI0 g) tInt tInt φ i j z := fun Hv H v w s e1 e2 Q k => ⟨i, j, e1, e2, k _ _ _ (Grow.refl s) (h _)⟩
theorem ov_I {C : Int → Int → Prop} {g : Int → Int → V} {i j : Int} (c : C i j) (h : ∀ H, φ.rep H (g i j) z) : OpV (rI C g) tInt tInt φ i j z := fun Hv H v w s e1 e2 Q k => ⟨i, j, e1, e2, c, k _ _ _ (Grow.refl s) (h _)⟩
theorem ov_add {i j : Int} : OpV (rI0 fun i j => .int (i + j)) tInt tInt tInt i j (i + j) := ov_I0 fun _ => rfl
theorem ov_sub {i j : Int} : OpV (rI0 fun i j => .int (i - j)) tInt tInt tInt i j (i - j) := ov_I0 fun _ => rfl
theorem ov_and {i j : Int} : OpV (rI0 fun i j => .int (Builtin.bitAnd i j)) tInt tInt tInt i j (Builtin.bitAnd i j) := ov_I0 fun _ => rfl
theorem ov_or {i j : Int} : OpV (rI0 fun i j => .int (Builtin.bitOr i j)) tInt tInt tInt i j (Builtin.bitOr i j) := ov_I0 fun _ => rfl
theorem ov_xor {i j : Int} : OpV (rI0 fun i j => .int (Builtin.bitXor i j)) tInt tInt tInt i j (Builtin.bitXor i j) := ov_I0 fun _ => rfl
theorem ov_lt {i j : Int} : OpV (rI0 fun i j => .bl (decide (i < j))) tInt tInt tBool i j (decide (i < j)) := ov_I0 fun _ => rfl
theorem ov_le {i j : Int} : OpV (rI0 fun i j => .bl (decide (i ≤ j))) tInt tInt tBool i j (decide (i ≤ j)) := ov_I0 fun _ => rfl
theorem ov_gt {i j : Int} : OpV (rI0 fun i j => .bl (decide (j < i))) tInt tInt tBool i j (decide (j < i)) := ov_I0 fun _ => rfl
theorem ov_ge {i j : Int} : OpV (rI0 fun i j => .bl (decide (j ≤ i))) tInt tInt tBool i j (decide (j ≤ i)) := ov_I0 fun _ => rfl
theorem ov_mod {i j : Int} (c : j ≠ 0) : OpV (rI (fun _ j => j ≠ 0) fun i j => .int (i.fmod j)) tInt tInt tInt i j (i.fmod j) := ov_I c fun _ => rfl
theorem ov_modP {i j : Int} (c : 0 < j) : OpV (rI (fun _ j => j ≠ 0) fun i j => .int (i.fmod j)) tInt tInt tInt i j (i % j) := ov_I (Int.ne_of_gt c) fun _ => congrArg V.int (Int.fmod_eq_emod_of_nonneg i (Int.le_of_lt c))
theorem ov_mulL {i j : Int} (c : -(2 ^ 64) < i ∧ i < 2 ^ 64) : OpV (rI CMul fun i j => .int (i * j)) tInt tInt tInt i j (i * j) := ov_I (.inl c) fun _ => rfl
theorem ov_mulR {i j : Int} (c : -(2 ^ 64) < j ∧ j < 2 ^ 64) : OpV (rI CMul fun i j => .int (i * j)) tInt tInt tInt i j (i * j) := ov_I (.inr c) fun _ => rfl
theorem ov_fdiv {i j : Int} (c : 0 < j ∧ j < 1073741824) : OpV (rI CDivN fun i j => .int (i.fdiv j)) tInt tInt tInt i j (i / j) := ov_I ⟨Int.ne_of_gt c.1, by omega⟩ fun _ => congrArg V.int (Int.fdiv_eq_ediv_of_nonneg i (Int.le_of_lt c.1))
theorem ov_pow {i j : Int} (c : 0 ≤ j ∧ j ≤ 1000000 ∧ i.natAbs < 2 ^ 64) : OpV (rI CPow fun i j => .int (i ^ j.toNat)) tInt tInt tInt i j (i ^ j.toNat) := ov_I c fun _ => rfl
theorem ov_shl {i j : Int} (c : 0 ≤ j ∧ j ≤ 1000000 ∧ i.natAbs < 2 ^ 64) : OpV (rI CPow fun i j => .int (i * 2 ^ j.toNat)) tInt tInt tInt i j (i * 2 ^ j.toNat) := ov_I c fun _ => rfl
theorem ov_shr {i j : Int} (c : 0 ≤ j) : OpV (rI (fun _ j => 0 ≤ j) fun i j => .int (i / 2 ^ j.toNat)) tInt tInt tInt i j (i / 2 ^ j.toNat) := ov_I c fun _ => rfl
theorem ov_eqI {i j : Int} : OpV rEq tInt tInt tBool i j (decide (i = j)) := fun Hv H v w s e1 e2 Q k => by
  cases e1; cases e2
  exact ⟨rfl, k _ _ _ (Grow.refl s) (congrArg V.bl (by by_cases h : i = j <;> simp [h]))⟩
theorem ov_neI {i j : Int} : OpV rNe tInt tInt tBool i j (!decide (i = j)) := fun Hv H v w s e1 e2 Q k => by
  cases e1; cases e2
  exact ⟨rfl, k _ _ _ (Grow.refl s) (congrArg V.bl (by by_cases h : i = j <;> simp [h]))⟩
theorem ov_eqB {i j : Bool} : OpV rEq tBool tBool tBool i j (decide (i = j)) := fun Hv H v w s e1 e2 Q k => by
  cases e1; cases e2
  exact ⟨rfl, k _ _ _ (Grow.refl s) (congrArg V.bl (by by_cases h : i = j <;> simp [h]))⟩
theorem ov_neB {i j : Bool} : OpV rNe tBool tBool tBool i j (!decide (i = j)) := fun Hv H v w s e1 e2 Q k => by
  cases e1; cases e2
  exact ⟨rfl, k _ _ _ (Grow.refl s) (congrArg V.bl (by by_cases h : i = j <;> simp [h]))⟩
theorem ov_eqS {i j : Str} : OpV rEq tStr tStr tBool i j (decide (i = j)) := fun Hv H v w s e1 e2 Q k => by
  cases e1; cases e2
  exact ⟨rfl, k _ _ _ (Grow.refl s) (congrArg V.bl (by by_cases h : i = j <;> simp [h]))⟩
theorem ov_neS {i j : Str} : OpV rNe tStr tStr tBool i j (!decide (i = j)) := fun Hv H v w s e1 e2 Q k => by
  cases e1; cases e2
  exact ⟨rfl, k _ _ _ (Grow.refl s) (congrArg V.bl (by by_cases h : i = j <;> simp [h]))⟩
theorem sm_un {g : Int → V} {t : TE} {i : Int} (h : Sm B Γ t tInt i) (hz : ∀ H, φ.rep H (g i) z) : Sm B Γ (tUn (rU g) t) φ z := fun σ Hv H w Q k =>
  h σ Hv H w _ fun v Hv1 H1 g1 r1 => ⟨i, r1, k _ _ _ g1 (hz _)⟩
theorem sm_neg {t : TE} {i : Int} (h : Sm B Γ t tInt i) : Sm B Γ (tUn (rU fun i => .int (-i)) t) tInt (-i) := sm_un h fun _ => rfl
theorem sm_isN {t : TE} {o : Option α} (h : Sm B Γ t (tOpt τ) o) : Sm B Γ (tOp (fun x y H Q => y = .non ∧ Q (.bl (decide (x = .non))) H) t (tC .non)) tBool o.isNone := fun σ Hv H w Q k =>
  h σ Hv H w _ fun v Hv1 H1 g1 r1 => ⟨rfl, k _ _ _ g1 (congrArg V.bl (by
    cases o with
    | none => exact decide_eq_true r1
    | some y => exact decide_eq_false r1.1))⟩
theorem sm_notN {t : TE} {o : Option α} (h : Sm B Γ t (tOpt τ) o) : Sm B Γ (tOp (fun x y H Q => y = .non ∧ Q (.bl (!decide (x = .non))) H) t (tC .non)) tBool o.isSome := fun σ Hv H w Q k =>
  h σ Hv H w _ fun v Hv1 H1 g1 r1 => ⟨rfl, k _ _ _ g1 (congrArg V.bl (by
    cases o with
    | none => rw [decide_eq_true (show v = V.non from r1)]; rfl
    | some y => rw [decide_eq_false r1.1]; rfl))⟩
theorem sm_chain {r r' : R2} {ta tb tc : TE} {b b' : Bool} {w : δ} {ψ : Ty δ} (ha : Sm B Γ ta τ x) (hb : Sm B Γ tb υ y) (o : OpV r τ υ tBool x y b) (hc : b = true → Sm B Γ tc ψ w) (o' : b = true → OpV r' υ ψ tBool y w b') : Sm B Γ (tChain r r' ta tb tc) tBool (b && b') := fun σ Hv H wd Q k =>
  ha σ Hv H wd _ fun v Hv1 H1 g1 r1 => hb σ Hv1 H1 (wd.grow g1) _ fun u Hv2 H2 g2 r2 => o Hv2 H2 v u g2.vis (τ.mono g2.v r1) r2 _ fun u' Hv3 H3 g3 r3 => by
    refine ⟨b, r3, ?_⟩
    cases b with
    | false => exact k _ _ _ ((g1.trans g2).trans g3) rfl
    | true => exact hc rfl σ Hv3 H3 (wd.grow ((g1.trans g2).trans g3)) _ fun q Hv4 H4 g4 r4 => o' rfl Hv4 H4 u q g4.vis (υ.mono (Same.trans g3.v g4.v) r2) r4 _ fun q' Hv5 H5 g5 r5 => k _ _ _ ((((g1.trans g2).trans g3).trans g4).trans g5) r5

/-! ### tests, truths -/
theorem smt_tt {t : TE} {b : Bool} (h : Sm B Γ t tBool b) : SmT B Γ (tTest t) b := fun σ Hv H w Q k => h σ Hv H w _ fun v Hv1 H1 g1 r1 => ⟨b, r1, k _ _ g1⟩
theorem smt_b {t : TE} {b : Bool} (h : Sm B Γ t tBool b) : SmT B Γ (tB t) b := fun σ Hv H w Q k => h σ Hv H w _ fun v Hv1 H1 g1 r1 => ⟨b, r1, k _ _ g1⟩
theorem smt_and {t u : TT} {b c : Bool} (h : SmT B Γ t b) (h' : b = true → SmT B Γ u c) : SmT B Γ (tAnd t u) (b && c) := fun σ Hv H w Q k => h σ Hv H w _ fun Hv1 H1 g1 => by
  cases b with
  | false => exact k _ _ g1
  | true => exact h' rfl σ Hv1 H1 (w.grow g1) _ fun Hv2 H2 g2 => k _ _ (g1.trans g2)
theorem smt_or {t u : TT} {b c : Bool} (h : SmT B Γ t b) (h' : b = false → SmT B Γ u c) : SmT B Γ (tOr t u) (b || c) := fun σ Hv H w Q k => h σ Hv H w _ fun Hv1 H1 g1 => by
  cases b with
  | true => exact k _ _ g1
  | false => exact h' rfl σ Hv1 H1 (w.grow g1) _ fun Hv2 H2 g2 => k _ _ (g1.trans g2)
theorem smt_not {t : TT} {b : Bool} (h : SmT B Γ t b) : SmT B Γ (tNot t) (!b) := fun σ Hv H w Q k => h σ Hv H w _ fun Hv1 H1 g1 => k _ _ g1
theorem smt_yes : SmT B Γ tYes true := fun _ _ _ w _ k => k _ _ (Grow.refl w.vis)
theorem sm_andV {t u : TE} {b c : Bool} (h : Sm B Γ t tBool b) (h' : b = true → Sm B Γ u tBool c) : Sm B Γ (tAndV t u) tBool (b && c) := fun σ Hv H w Q k => h σ Hv H w _ fun v Hv1 H1 g1 r1 => by
  refine ⟨b, r1, ?_⟩
  cases b with
  | false => exact k _ _ _ g1 rfl
  | true => exact h' rfl σ Hv1 H1 (w.grow g1) _ fun v Hv2 H2 g2 r2 => k _ _ _ (g1.trans g2) r2
theorem sm_orV {t u : TE} {b c : Bool} (h : Sm B Γ t tBool b) (h' : b = false → Sm B Γ u tBool c) : Sm B Γ (tOrV t u) tBool (b || c) := fun σ Hv H w Q k => h σ Hv H w _ fun v Hv1 H1 g1 r1 => by
  refine ⟨b, r1, ?_⟩
  cases b with
  | true => exact k _ _ _ g1 rfl
  | false => exact h' rfl σ Hv1 H1 (w.grow g1) _ fun v Hv2 H2 g2 r2 => k _ _ _ (g1.trans g2) r2
theorem sm_notV {t : TE} {b : Bool} (h : Sm B Γ t tBool b) : Sm B Γ (tNotV t) tBool (!b) := fun σ Hv H w Q k => h σ Hv H w _ fun v Hv1 H1 g1 r1 => ⟨b, r1, k _ _ _ g1 rfl⟩
theorem sm_if {c : TT} {t u : TE} {b : Bool} {x x' : α} (h : SmT B Γ c b) (h1 : b = true → Sm B Γ t τ x) (h2 : b = false → Sm B Γ u τ x') : Sm B Γ (tIf c t u) τ (bif b then x else x') := fun σ Hv H w Q k => h σ Hv H w _ fun Hv1 H1 g1 => by
  cases b with
  | true => exact h1 rfl σ Hv1 H1 (w.grow g1) _ fun v Hv2 H2 g2 r2 => k _ _ _ (g1.trans g2) r2
  | false => exact h2 rfl σ Hv1 H1 (w.grow g1) _ fun v Hv2 H2 g2 r2 => k _ _ _ (g1.trans g2) r2

/-! ### lists -/
variable {K : PySem.W.Frag}
theorem seq_lt {n : Nat} (h : n ≤ 1000) : n ≤ sizeLine := Nat.le_trans h (by decide)
theorem sm_ix {ta tb : TE} {xs : List α} {i : Int} (ha : SmL B Γ ta τ xs) (hb : Sm B Γ tb tInt i) (h0 : 0 ≤ i) (h : xs[i.toNat]? = some x) : Sm B Γ (tOp (rIxL K) ta tb) τ x := fun σ Hv H w Q k =>
  ha σ Hv H w _ fun a vs Hv1 H1 g1 e1 r1 => hb σ Hv1 H1 (w.grow g1) _ fun v Hv2 H2 g2 r2 => by
    obtain ⟨u, hu, ru⟩ := paired_get' (Paired.up g2.v r1) h
    cases r2
    refine ⟨a, vs, i, u, rfl, rfl, SqL.of (g2.s _ _ e1), ?_, k _ _ _ (g1.trans g2) ru⟩
    have := atI_nat hu
    rw [Int.toNat_of_nonneg h0] at this
    exact this
/-- an item counted from the end -/
theorem sm_ixN {ta tb : TE} {xs : List α} {i : Int} (ha : SmL B Γ ta τ xs) (hb : Sm B Γ tb tInt i) (h0 : i < 0) (h1 : -(xs.length : Int) ≤ i) (h : xs[(i + xs.length).toNat]? = some x) : Sm B Γ (tOp (rIxL K) ta tb) τ x := fun σ Hv H w Q k =>
  ha σ Hv H w _ fun a vs Hv1 H1 g1 e1 r1 => hb σ Hv1 H1 (w.grow g1) _ fun v Hv2 H2 g2 r2 => by
    obtain ⟨u, hu, ru⟩ := paired_get' (Paired.up g2.v r1) h
    cases r2
    refine ⟨a, vs, i, u, rfl, rfl, SqL.of (g2.s _ _ e1), ?_, k _ _ _ (g1.trans g2) ru⟩
    unfold atI ixN
    rw [if_neg (by omega), paired_len r1, if_pos h1]
    exact hu
theorem sm_ixScr {ta tb : TE} {ns : List Int} {i : Int} (ha : Sm B Γ ta (tScr K) ns) (hb : Sm B Γ tb tInt i) (h0 : 0 ≤ i) (h : ns[i.toNat]? = some n) : Sm B Γ (tOp (rIxL K) ta tb) tInt n := fun σ Hv H w Q k =>
  ha σ Hv H w _ fun v Hv1 H1 g1 r1 => hb σ Hv1 H1 (w.grow g1) _ fun u Hv2 H2 g2 r2 => by
    obtain ⟨a, rfl, e⟩ := r1
    cases r2
    refine ⟨a, ns.map V.int, i, .int n, rfl, rfl, Same.seq (Same.trans g2.v g2.vis) e, ?_, k _ _ _ (g1.trans g2) rfl⟩
    have := atI_nat (xs := ns.map V.int) (j := i.toNat) (v := .int n) (by rw [List.getElem?_map, h]; rfl)
    rw [Int.toNat_of_nonneg h0] at this
    exact this
theorem ov_ix0 {p : α × β} : OpV (rIxT K) (tTup2 τ υ) tInt τ p 0 p.1 := fun Hv H v w s ⟨a, v1, v2, e, h, r1, r2⟩ e2 Q k => by
  subst e; cases e2
  exact ⟨a, [v1, v2], 0, v1, rfl, rfl, SqT.of (s _ _ h), rfl, k _ _ _ (Grow.refl s) r1⟩
theorem ov_ix1 {p : α × β} : OpV (rIxT K) (tTup2 τ υ) tInt υ p 1 p.2 := fun Hv H v w s ⟨a, v1, v2, e, h, r1, r2⟩ e2 Q k => by
  subst e; cases e2
  exact ⟨a, [v1, v2], 1, v2, rfl, rfl, SqT.of (s _ _ h), rfl, k _ _ _ (Grow.refl s) r2⟩
theorem sm_len {t : TE} {xs : List α} (h : SmL B Γ t τ xs) : Sm B Γ (tCB (fun xs H Q => ∃ p ys, xs = [.ref p] ∧ (SqL K H p ys ∨ SqT K H p ys) ∧ Q (.int ys.length) H) (tCons t tNil)) tInt (xs.length : Int) := fun σ Hv H w Q k =>
  h σ Hv H w _ fun a vs Hv1 H1 g1 e1 r1 => ⟨a, vs, rfl, .inl (SqL.of e1), k _ _ _ g1 (by rw [paired_len r1]; rfl)⟩
theorem sm_lenScr {t : TE} {ns : List Int} (h : Sm B Γ t (tScr K) ns) : Sm B Γ (tCB (fun xs H Q => ∃ p ys, xs = [.ref p] ∧ (SqL K H p ys ∨ SqT K H p ys) ∧ Q (.int ys.length) H) (tCons t tNil)) tInt (ns.length : Int) := fun σ Hv H w Q k =>
  h σ Hv H w _ fun v Hv1 H1 g1 ⟨a, e, r1⟩ => ⟨a, ns.map V.int, by rw [e], .inl (Same.seq g1.vis r1), k _ _ _ g1 (by rw [List.length_map]; rfl)⟩
theorem sm_lenT {t : TE} {p : α × β} (h : Sm B Γ t (tTup2 τ υ) p) : Sm B Γ (tCB (fun xs H Q => ∃ p ys, xs = [.ref p] ∧ (SqL K H p ys ∨ SqT K H p ys) ∧ Q (.int ys.length) H) (tCons t tNil)) tInt 2 := fun σ Hv H w Q k =>
  h σ Hv H w _ fun v Hv1 H1 g1 ⟨a, v1, v2, e, r1, _⟩ => ⟨a, [v1, v2], by rw [e], .inr (SqT.of (g1.vis _ _ r1)), k _ _ _ g1 rfl⟩
/-- items that are written: all of one type -/
inductive SmI (B : Bs) (Γ : Cxt) (τ : Ty α) : TA → List α → Prop
  | nil : SmI B Γ τ tNil []
  | cons {t : TE} {r : TA} {x : α} {xs : List α} : Sm B Γ t τ x → SmI B Γ τ r xs → SmI B Γ τ (tCons t r) (x :: xs)
theorem SmI.run {t : TA} {xs : List α} (h : SmI B Γ τ t xs) : ∀ (σ : L2.St) (Hv H : Hp), Wd B Γ σ Hv H → ∀ Q : List V → Hp → Prop, (∀ vs Hv' H', Grow Hv H Hv' H' → Paired (τ.rep Hv') vs xs → Q vs H') → t σ H Q := by
  induction h with
  | nil => exact fun σ Hv H w Q k => k _ _ _ (Grow.refl w.vis) .nil
  | cons ha hr ih => exact fun σ Hv H w Q k => ha σ Hv H w _ fun v Hv1 H1 g1 r1 => ih σ Hv1 H1 (w.grow g1) _ fun vs Hv2 H2 g2 r2 => k _ _ _ (g1.trans g2) (.cons (τ.mono g2.v r1) r2)
theorem smo_lst {t : TA} {xs : List α} (h : SmI B Γ τ t xs) (hl : xs.length ≤ 1000) : SmO B Γ (tLst t) τ xs := fun σ Hv H w Q k => h.run σ Hv H w _ fun vs Hv1 H1 g1 r1 => by
  refine ⟨by rw [paired_len r1]; exact seq_lt hl, fun p hp => ?_⟩
  refine k p vs Hv1 _ (g1.trans (Grow.newO g1.vis hp)) (Same.free g1.s hp) upd_same (Same.free g1.vis hp) r1
theorem sm_tup2 {t u : TE} (h : Sm B Γ t τ x) (h' : Sm B Γ u υ y) : Sm B Γ (tTup (tCons t (tCons u tNil))) (tTup2 τ υ) (x, y) := fun σ Hv H w Q k =>
  h σ Hv H w _ fun v Hv1 H1 g1 r1 => h' σ Hv1 H1 (w.grow g1) _ fun u Hv2 H2 g2 r2 => ⟨by show 2 ≤ sizeLine; decide, fun p hp =>
    k _ (upd Hv2 p _) _ ((g1.trans g2).trans (Grow.new g2.vis hp)) ⟨p, v, u, rfl, upd_same, τ.mono (Same.trans g2.v (same_upd (Same.free g2.vis hp))) r1, υ.mono (same_upd (Same.free g2.vis hp)) r2⟩⟩
theorem smo_list {t : TE} {xs : List α} (h : SmL B Γ t τ xs) : SmO B Γ (tCB (fun xs H Q => ∃ p ys, xs = [.ref p] ∧ (SqL K H p ys ∨ SqT K H p ys) ∧ ∀ l, H l = none → Q (.ref l) (upd H l (.lst ys))) (tCons t tNil)) τ xs := fun σ Hv H w Q k =>
  h σ Hv H w _ fun a vs Hv1 H1 g1 e1 r1 => ⟨a, vs, rfl, .inl (SqL.of e1), fun p hp => k p vs Hv1 _ (g1.trans (Grow.newO g1.vis hp)) (Same.free g1.s hp) upd_same (Same.free g1.vis hp) r1⟩
theorem smo_cat {t u : TE} {xs ys : List α} (h : SmL B Γ t τ xs) (h' : SmL B Γ u τ ys) (hl : xs.length + ys.length ≤ 1000) : SmO B Γ (tOp rCat t u) τ (xs ++ ys) := fun σ Hv H w Q k =>
  h σ Hv H w _ fun a vs Hv1 H1 g1 e1 r1 => h' σ Hv1 H1 (w.grow g1) _ fun b us Hv2 H2 g2 e2 r2 => ⟨a, b, vs, us, rfl, rfl, g2.s _ _ e1, e2, by rw [paired_len r1, paired_len r2]; exact seq_lt hl, fun p hp =>
    k p _ Hv2 _ ((g1.trans g2).trans (Grow.newO g2.vis hp)) (Same.free (g1.trans g2).s hp) upd_same (Same.free g2.vis hp) (paired_app (Paired.up g2.v r1) r2)⟩
theorem smo_rep {t u : TE} {x : α} {n : Int} (h : SmL B Γ t τ [x]) (h' : Sm B Γ u tInt n) (hl : 0 ≤ n ∧ n ≤ 1000) : SmO B Γ (tOp rRep t u) τ (List.replicate n.toNat x) := fun σ Hv H w Q k =>
  h σ Hv H w _ fun a vs Hv1 H1 g1 e1 r1 => h' σ Hv1 H1 (w.grow g1) _ fun u Hv2 H2 g2 e2 => by
    cases e2
    cases r1 with
    | cons ra rn =>
      cases rn
      rename_i va
      refine ⟨a, n, [va], rfl, rfl, g2.s _ _ e1, by omega, by omega, ?_, fun p hp => ?_⟩
      · show 1 * n.toNat ≤ sizeLine
        rw [Nat.one_mul]
        exact seq_lt (by omega)
      · refine k p _ Hv2 _ ((g1.trans g2).trans (Grow.newO g2.vis hp)) (Same.free (g1.trans g2).s hp) upd_same (Same.free g2.vis hp) ?_
        have e : (List.replicate n.toNat [va]).flatten = List.replicate n.toNat va := by simp
        rw [e]
        exact paired_rep (τ.mono g2.v ra) _
end
end VC

set_option Elab.async false
set_option maxRecDepth 100000
set_option maxHeartbeats 4000000
namespace VC
open PySem PySem.Spec L2

/-! ### slots forgotten -/
def dels : List Nat → Cxt → Cxt
  | [], Γ => Γ
  | i :: is, Γ => del i (dels is Γ)
theorem getElem?_setN {σ : L2.St} {i j : Nat} {x : Option V} : (σ.set i x)[j]? = if i = j then (if j < σ.length then some x else none) else σ[j]? := by
  rw [List.getElem?_set]
  by_cases h : i = j
  · subst h; rfl
  · rw [if_neg h, if_neg h]
theorem Wd.forget {B : Bs} {Γ : Cxt} {σ : L2.St} {Hv H : Hp} (w : Wd B Γ σ Hv H) (i : Nat) (x : Option V) : Wd B (del i Γ) (σ.set i x) Hv H where
  len := by rw [List.length_set]; exact w.len
  vis := w.vis
  s0 := w.s0
  a0 := w.a0
  v0 := w.v0
  nw := w.nw
  ent := fun j e m => by
    obtain ⟨hj, m⟩ := del_mem m
    have z := w.ent j e m
    cases e with
    | fz => obtain ⟨u, h1, h2⟩ := z; exact ⟨u, by rw [List.getElem?_set_ne (Ne.symm hj)]; exact h1, h2⟩
    | cl => obtain ⟨l, vs, h1, h2⟩ := z; exact ⟨l, vs, by rw [List.getElem?_set_ne (Ne.symm hj)]; exact h1, h2⟩
    | gh => exact z
    | ob => obtain ⟨fs, h1, h2⟩ := z; exact ⟨fs, by rw [List.getElem?_set_ne (Ne.symm hj)]; exact h1, h2⟩
  new := fun j e l m c s => by
    obtain ⟨hj, m⟩ := del_mem m
    rw [List.getElem?_set_ne (Ne.symm hj)] at s
    exact w.new j e l m c s
  dis := fun j k e f l m m' c c' n s s' => by
    obtain ⟨hj, m⟩ := del_mem m
    obtain ⟨hk, m'⟩ := del_mem m'
    rw [List.getElem?_set_ne (Ne.symm hj)] at s
    rw [List.getElem?_set_ne (Ne.symm hk)] at s'
    exact w.dis j k e f l m m' c c' n s s'
theorem Wd.wiped {B : Bs} {Γ : Cxt} {σ : L2.St} {Hv H : Hp} (w : Wd B Γ σ Hv H) : ∀ vs : List Nat, Wd B (dels vs Γ) (wipe σ vs) Hv H
  | [] => w
  | i :: vs => (w.wiped vs).forget i none
theorem wipe_get (σ : L2.St) : ∀ (vs : List Nat) (j : Nat), (wipe σ vs)[j]? = if j ∈ vs then (if j < σ.length then some none else none) else σ[j]?
  | [], j => by simp [wipe]
  | i :: vs, j => by
    unfold wipe
    rw [getElem?_setN, wipe_length, wipe_get σ vs j]
    by_cases h : i = j
    · subst h
      simp
    · rw [if_neg h]
      by_cases h' : j ∈ vs
      · simp [h']
      · have : ¬ j ∈ i :: vs := by simp [h', Ne.symm h]
        rw [if_neg h', if_neg this]
theorem wipe_eq {σ σ' : L2.St} {vs is : List Nat} (hl : σ'.length = σ.length) (h : ∀ j, j ∉ is → σ'[j]? = σ[j]?) (hi : ∀ i ∈ is, i ∈ vs) : wipe σ' vs = wipe σ vs := by
  apply List.ext_getElem?
  intro j
  rw [wipe_get, wipe_get, hl]
  by_cases hj : j ∈ vs
  · rw [if_pos hj, if_pos hj]
  · rw [if_neg hj, if_neg hj]
    exact h j fun z => hj (hi j z)
theorem wipe_wipe (σ : L2.St) (vs : List Nat) : wipe (wipe σ vs) vs = wipe σ vs := wipe_eq (is := vs) (wipe_length σ vs) (fun j hj => by rw [wipe_get, if_neg hj]) fun _ h => h

/-! ### targets -/
structure Tgt {α : Type} (B : Bs) (g : TG) (τ : Ty α) (up : α → Cxt → Cxt) (is : List Nat) : Prop where
  run : ∀ (Γ : Cxt) (σ : L2.St) (Hv H : Hp) (v : V) (x : α), Wd B Γ σ Hv H → τ.rep Hv v x → ∀ Q : L2.St → Hp → Prop, (∀ σ', Wd B (up x Γ) σ' Hv H → σ'.length = σ.length → (∀ j, j ∉ is → σ'[j]? = σ[j]?) → Q σ' H) → g v σ H Q
theorem tgt_name {α : Type} {B : Bs} {τ : Ty α} {i : Nat} (hi : i < B.n) : Tgt B (gName i) τ (fun x => put i (.fz τ x)) [i] :=
  ⟨fun Γ σ Hv H v x w r Q k => k _ (w.put i hi r) (List.length_set) fun j hj => by rw [List.getElem?_set_ne]; intro e; exact hj (by simp [e])⟩
theorem tgt_tup {α β : Type} {K : PySem.W.Frag} {B : Bs} {τ : Ty α} {υ : Ty β} {i j : Nat} (hi : i < B.n) (hj : j < B.n) : Tgt B (gTup K 2 (gCons (gName i) (gCons (gName j) gNil))) (tTup2 τ υ) (fun x Γ => put j (.fz υ x.2) (put i (.fz τ x.1) Γ)) [i, j] :=
  ⟨fun Γ σ Hv H v x w ⟨a, v1, v2, e, h, r1, r2⟩ Q k => ⟨a, [v1, v2], e, SqT.of (w.vis _ _ h), rfl, v1, [v2], rfl, v2, [], rfl, rfl, k _ ((w.put i hi r1).put j hj r2) (by rw [List.length_set, List.length_set]) fun k hk => by
    rw [List.getElem?_set_ne, List.getElem?_set_ne]
    · intro e; exact hk (by simp [e])
    · intro e; exact hk (by simp [e])⟩⟩

/-! ### what is walked -/
def SmW {α : Type} (B : Bs) (Γ : Cxt) (fr : Bool) (wi : TI) (τ : Ty α) (ys : List α) : Prop := ∀ (σ : L2.St) (Hv H : Hp), Wd B Γ σ Hv H → ∀ R : It → Hp → Prop,
  (∀ (J : It) (Gd : Hp → Prop) (Y : Nat → Hp → V → Hp → Prop) (Hv' H' : Hp), Grow Hv H Hv' H' → Walk J ys.length Gd Y →
    (∀ Hv'' H'', Same Hv' Hv'' → Same Hv'' H'' → (fr = false → Same H' H'') → Gd H'') →
    (∀ i H1 v H2 Hv1, i < ys.length → Same Hv' Hv1 → Same Hv1 H1 → (fr = false → Same H' H1) → Y i H1 v H2 → ∃ Hv2 y, Grow Hv1 H1 Hv2 H2 ∧ ys[i]? = some y ∧ τ.rep Hv2 v y) → R J H') → wi σ H R
section
variable {B : Bs} {Γ : Cxt} {α β : Type} {τ : Ty α} {υ : Ty β} {K : PySem.W.Frag} {fr : Bool}
theorem smw_core {t : TE} {xs : List α} {a : Addr} {vs : List V} {Hv' H' : Hp} (r : Paired (τ.rep Hv') vs xs) (hG : ∀ Hv'' H'', Same Hv' Hv'' → Same Hv'' H'' → (fr = false → Same H' H'') → SqL K H'' a vs) :
    Walk (Itl K a) xs.length (fun H => SqL K H a vs) (YAt vs) ∧ (∀ i H1 v H2 Hv1, i < xs.length → Same Hv' Hv1 → Same Hv1 H1 → (fr = false → Same H' H1) → YAt vs i H1 v H2 → ∃ Hv2 y, Grow Hv1 H1 Hv2 H2 ∧ xs[i]? = some y ∧ τ.rep Hv2 v y) := by
  refine ⟨paired_len r ▸ walk_list, fun i H1 v H2 Hv1 hi s1 s2 _ y => ?_⟩
  obtain ⟨rfl, e⟩ := y
  obtain ⟨y, e2, r2⟩ := paired_get r e
  exact ⟨Hv1, y, Grow.refl s2, e2, τ.mono s1 r2⟩
/-- a list that is read, in a comprehension -/
theorem smw_list {t : TE} {xs : List α} (h : SmL B Γ t τ xs) : SmW B Γ false (iList K t) τ xs := fun σ Hv H w R k =>
  h σ Hv H w _ fun a vs Hv' H' g e r => by
    have c := smw_core (K := K) (fr := false) (t := t) (a := a) (H' := H') r fun Hv'' H'' s1 s2 s3 => SqL.of (s3 rfl _ _ e)
    exact ⟨a, rfl, ⟨vs, SqL.of e⟩, k _ _ _ Hv' H' g c.1 (fun Hv'' H'' s1 s2 s3 => SqL.of (s3 rfl _ _ e)) c.2⟩
/-- a list that stands still -/
theorem smw_listF {t : TE} {xs : List α} (h : Sm B Γ t (tList τ) xs) : SmW B Γ fr (iList K t) τ xs := fun σ Hv H w R k =>
  h σ Hv H w _ fun v Hv' H' g ⟨a, vs, ev, e, r⟩ => by
    have c := smw_core (K := K) (fr := fr) (t := t) (a := a) (H' := H') r fun Hv'' H'' s1 s2 s3 => SqL.of (s2 _ _ (s1 _ _ e))
    exact ⟨a, ev, ⟨vs, SqL.of (g.vis _ _ e)⟩, k _ _ _ Hv' H' g c.1 (fun Hv'' H'' s1 s2 s3 => SqL.of (s2 _ _ (s1 _ _ e))) c.2⟩
theorem smw_scr {t : TE} {ns : List Int} (h : Sm B Γ t (tScr K) ns) : SmW B Γ fr (iList K t) tInt ns := fun σ Hv H w R k =>
  h σ Hv H w _ fun v Hv' H' g ⟨a, ev, e⟩ => by
    have c := smw_core (τ := tInt) (K := K) (fr := fr) (t := t) (a := a) (H' := H') (Hv' := Hv') int_paired fun Hv'' H'' s1 s2 s3 => Same.seq (Same.trans s1 s2) e
    exact ⟨a, ev, ⟨_, Same.seq g.vis e⟩, k _ _ _ Hv' H' g c.1 (fun Hv'' H'' s1 s2 s3 => Same.seq (Same.trans s1 s2) e) c.2⟩
def rangeL (i j : Int) : List Int := (List.range (j - i).toNat).map fun (k : Nat) => i + (k : Int)
theorem rangeL_len {i j : Int} : (rangeL i j).length = (j - i).toNat := by simp [rangeL]
theorem rangeL_get {i j : Int} {k : Nat} (h : k < (j - i).toNat) : (rangeL i j)[k]? = some (i + k) := by simp [rangeL, h]
theorem rangeL_get_iff {i j : Int} {k : Nat} {x : Int} : (rangeL i j)[k]? = some x ↔ k < (j - i).toNat ∧ x = i + k := by
  unfold rangeL
  rw [List.getElem?_map]
  by_cases h : k < (j - i).toNat
  · rw [List.getElem?_range h]
    simp only [Option.map_some, Option.some.injEq]
    exact ⟨fun e => ⟨h, e.symm⟩, fun e => e.2.symm⟩
  · rw [List.getElem?_eq_none (by simpa using h)]
    simp [h]
theorem rangeL0_iff {j : Int} {k : Nat} {x : Int} : (rangeL 0 j)[k]? = some x ↔ (k : Int) < j ∧ x = k := by
  rw [rangeL_get_iff, Int.zero_add, Int.sub_zero]
  exact ⟨fun ⟨h, e⟩ => ⟨by omega, e⟩, fun ⟨h, e⟩ => ⟨by omega, e⟩⟩
theorem rangeL_mem {i j x : Int} : x ∈ rangeL i j ↔ i ≤ x ∧ x < j := by
  unfold rangeL
  simp only [List.mem_map, List.mem_range]
  constructor
  · rintro ⟨k, h, rfl⟩
    omega
  · intro h
    exact ⟨(x - i).toNat, by omega, by omega⟩
theorem smw_range2 {t u : TE} {i j : Int} (h : Sm B Γ t tInt i) (h' : Sm B Γ u tInt j) (hb : -(2 ^ 62) ≤ i ∧ i < 2 ^ 62 ∧ -(2 ^ 62) ≤ j ∧ j < 2 ^ 62) : SmW B Γ fr (iRng2 (tCons t (tCons u tNil))) tInt (rangeL i j) := fun σ Hv H w R k =>
  h σ Hv H w _ fun v Hv1 H1 g1 r1 => h' σ Hv1 H1 (w.grow g1) _ fun u Hv2 H2 g2 r2 => by
    cases r1; cases r2
    refine ⟨i, j, rfl, hb, k _ _ _ Hv2 H2 (g1.trans g2) (by rw [rangeL_len]; exact walk_range) (fun _ _ _ _ _ => trivial) fun m H1 v H2 Hv1 hm s1 s2 _ y => ?_⟩
    obtain ⟨rfl, rfl⟩ := y
    rw [rangeL_len] at hm
    exact ⟨Hv1, i + m, Grow.refl s2, rangeL_get hm, rfl⟩
theorem smw_range1 {t : TE} {j : Int} (h : Sm B Γ t tInt j) (hb : -(2 ^ 62) ≤ j ∧ j < 2 ^ 62) : SmW B Γ fr (iRng1 (tCons t tNil)) tInt (rangeL 0 j) := fun σ Hv H w R k =>
  h σ Hv H w _ fun v Hv1 H1 g1 r1 => by
    cases r1
    refine ⟨j, rfl, hb.1, hb.2, k _ _ _ Hv1 H1 g1 (by rw [rangeL_len, Int.sub_zero]; exact walk_range) (fun _ _ _ _ _ => trivial) fun m H1 v H2 Hv1 hm s1 s2 _ y => ?_⟩
    obtain ⟨rfl, rfl⟩ := y
    rw [rangeL_len] at hm
    exact ⟨Hv1, 0 + m, Grow.refl s2, rangeL_get hm, rfl⟩
def enumL (xs : List α) : List (Int × α) := xs.mapIdx fun i x => ((i : Int), x)
theorem enumL_len {xs : List α} : (enumL xs).length = xs.length := by simp [enumL]
theorem enumL_get {xs : List α} {i : Nat} : (enumL xs)[i]? = xs[i]?.map fun x => ((i : Int), x) := by simp [enumL]
theorem enumL_iff {xs : List α} {i : Nat} {p : Int × α} : (enumL xs)[i]? = some p ↔ p.1 = i ∧ xs[i]? = some p.2 := by
  rw [enumL_get]
  cases e : xs[i]? with
  | none => simp
  | some x =>
    obtain ⟨a, b⟩ := p
    simp only [Option.map_some, Option.some.injEq, Prod.mk.injEq]
    exact ⟨fun ⟨h1, h2⟩ => ⟨h1.symm, h2⟩, fun ⟨h1, h2⟩ => ⟨h1.symm, h2⟩⟩
theorem smw_enumF {t : TE} {xs : List α} (h : Sm B Γ t (tList τ) xs) : SmW B Γ fr (iEnum K (tCons t tNil)) (tTup2 tInt τ) (enumL xs) := fun σ Hv H w R k =>
  h σ Hv H w _ fun v Hv' H' g ⟨a, vs, ev, e, r⟩ => by
    refine ⟨a, vs, by rw [ev], SqL.of (g.vis _ _ e), k _ _ _ Hv' H' g (by rw [enumL_len, ← paired_len r]; exact walk_enum) (fun Hv'' H'' s1 s2 s3 => SqL.of (s2 _ _ (s1 _ _ e))) fun i H1 v H2 Hv1 hi s1 s2 _ y => ?_⟩
    obtain ⟨T, x, y, rfl, hT, rfl, e1, e2⟩ := y
    cases e1
    obtain ⟨z, e3, r3⟩ := paired_get r e2
    refine ⟨upd Hv1 T _, (i, z), Grow.new s2 hT, by rw [enumL_get, e3]; rfl, T, .int i, y, rfl, upd_same, rfl, ?_⟩
    exact τ.mono (Same.trans s1 (same_upd (Same.free s2 hT))) r3
theorem smw_enum {t : TE} {xs : List α} (h : SmL B Γ t τ xs) : SmW B Γ false (iEnum K (tCons t tNil)) (tTup2 tInt τ) (enumL xs) := fun σ Hv H w R k =>
  h σ Hv H w _ fun a vs Hv' H' g e r => by
    refine ⟨a, vs, rfl, SqL.of e, k _ _ _ Hv' H' g (by rw [enumL_len, ← paired_len r]; exact walk_enum) (fun Hv'' H'' s1 s2 s3 => SqL.of (s3 rfl _ _ e)) fun i H1 v H2 Hv1 hi s1 s2 _ y => ?_⟩
    obtain ⟨T, x, y, rfl, hT, rfl, e1, e2⟩ := y
    cases e1
    obtain ⟨z, e3, r3⟩ := paired_get r e2
    refine ⟨upd Hv1 T _, (i, z), Grow.new s2 hT, by rw [enumL_get, e3]; rfl, T, .int i, y, rfl, upd_same, rfl, ?_⟩
    exact τ.mono (Same.trans s1 (same_upd (Same.free s2 hT))) r3
theorem smw_zipF {t u : TE} {xs : List α} {ys : List β} (h : Sm B Γ t (tList τ) xs) (h' : Sm B Γ u (tList υ) ys) : SmW B Γ fr (iZip K (tCons t (tCons u tNil))) (tTup2 τ υ) (xs.zip ys) := fun σ Hv H w R k =>
  h σ Hv H w _ fun v Hv1 H1 g1 ⟨a, vs, ev, e, r⟩ => h' σ Hv1 H1 (w.grow g1) _ fun v' Hv' H' g2 ⟨b, us, ev', e', r'⟩ => by
    have r := Paired.up g2.v r
    have e := g2.v _ _ e
    refine ⟨a, b, vs, us, by rw [ev, ev'], SqL.of (g2.vis _ _ e), SqL.of (g2.vis _ _ e'), k _ _ _ Hv' H' (g1.trans g2) (walk_zip (by rw [List.length_zip, paired_len r, paired_len r'])) (fun Hv'' H'' s1 s2 s3 => ⟨SqL.of (s2 _ _ (s1 _ _ e)), SqL.of (s2 _ _ (s1 _ _ e'))⟩) fun i H1 v H2 Hv1 hi s1 s2 _ y => ?_⟩
    obtain ⟨T, x, y, rfl, hT, rfl, e1, e2⟩ := y
    obtain ⟨z, e3, r3⟩ := paired_get r e1
    obtain ⟨z', e4, r4⟩ := paired_get r' e2
    have q := same_upd (o := .tup [x, y]) (Same.free s2 hT)
    refine ⟨upd Hv1 T _, (z, z'), Grow.new s2 hT, by rw [List.getElem?_zip_eq_some]; exact ⟨e3, e4⟩, T, x, y, rfl, upd_same, τ.mono (Same.trans s1 q) r3, υ.mono (Same.trans s1 q) r4⟩
theorem smw_zip {t u : TE} {xs : List α} {ys : List β} (h : SmL B Γ t τ xs) (h' : SmL B Γ u υ ys) : SmW B Γ false (iZip K (tCons t (tCons u tNil))) (tTup2 τ υ) (xs.zip ys) := fun σ Hv H w R k =>
  h σ Hv H w _ fun a vs Hv1 H1 g1 e r => h' σ Hv1 H1 (w.grow g1) _ fun b us Hv' H' g2 e' r' => by
    have r := Paired.up g2.v r
    have e := g2.s _ _ e
    refine ⟨a, b, vs, us, rfl, SqL.of e, SqL.of e', k _ _ _ Hv' H' (g1.trans g2) (walk_zip (by rw [List.length_zip, paired_len r, paired_len r'])) (fun Hv'' H'' s1 s2 s3 => ⟨SqL.of (s3 rfl _ _ e), SqL.of (s3 rfl _ _ e')⟩) fun i H1 v H2 Hv1 hi s1 s2 _ y => ?_⟩
    obtain ⟨T, x, y, rfl, hT, rfl, e1, e2⟩ := y
    obtain ⟨z, e3, r3⟩ := paired_get r e1
    obtain ⟨z', e4, r4⟩ := paired_get r' e2
    have q := same_upd (o := .tup [x, y]) (Same.free s2 hT)
    refine ⟨upd Hv1 T _, (z, z'), Grow.new s2 hT, by rw [List.getElem?_zip_eq_some]; exact ⟨e3, e4⟩, T, x, y, rfl, upd_same, τ.mono (Same.trans s1 q) r3, υ.mono (Same.trans s1 q) r4⟩
theorem smw_revF {t : TE} {xs : List α} (h : Sm B Γ t (tList τ) xs) : SmW B Γ fr (iRev K (tCons t tNil)) τ xs.reverse := fun σ Hv H w R k =>
  h σ Hv H w _ fun v Hv' H' g ⟨a, vs, ev, e, r⟩ => by
    refine ⟨a, vs, by rw [ev], SqL.of (g.vis _ _ e), k _ _ _ Hv' H' g (by rw [List.length_reverse, ← paired_len r]; exact walk_rev) (fun Hv'' H'' s1 s2 s3 => SqL.of (s2 _ _ (s1 _ _ e))) fun i H1 v H2 Hv1 hi s1 s2 _ y => ?_⟩
    obtain ⟨rfl, e1⟩ := y
    obtain ⟨z, e3, r3⟩ := paired_get r e1
    rw [List.length_reverse] at hi
    refine ⟨Hv1, z, Grow.refl s2, ?_, τ.mono s1 r3⟩
    rw [List.getElem?_reverse hi]
    rw [paired_len r] at e3
    exact e3

/-! ### comprehensions -/
theorem take_filter_map {ys : List α} {p : α → Bool} {f : α → β} {i : Nat} {y : α} (h : ys[i]? = some y) : ((ys.take (i + 1)).filter p).map f = ((ys.take i).filter p).map f ++ (bif p y then [f y] else []) := by
  obtain ⟨hi, rfl⟩ := List.getElem?_eq_some_iff.mp h
  rw [List.take_succ_eq_append_getElem hi, List.filter_append, List.map_append]
  congr 1
  cases e : p ys[i] <;> simp [e]
theorem smo_lc {wi : TI} {g : TG} {tt : TT} {te : TE} {vs is : List Nat} {up : α → Cxt → Cxt} {ys : List α} {p : α → Bool} {f : α → β} (hs : SmW B Γ false wi τ ys) (hg : Tgt B g τ up is) (hi : ∀ i ∈ is, i ∈ vs) (hl : ys.length ≤ 1000)
    (ht : ∀ x ∈ ys, SmT B (up x (dels vs Γ)) tt (p x)) (he : ∀ x ∈ ys, p x = true → Sm B (up x (dels vs Γ)) te υ (f x)) : SmO B Γ (tLc wi g tt te vs) υ ((ys.filter p).map f) := fun σ Hv H w Q k =>
  hs σ Hv H w _ fun J Gd Y Hv1 H1 g1 wk hG hY => fun D hD => by
    have w1 := w.grow g1
    refine lc_it wk (fun i H' => ∃ Hv' acc, Grow Hv1 H1 Hv' H' ∧ H' D = some (.lst acc) ∧ Hv' D = none ∧ Paired (υ.rep Hv') acc (((ys.take i).filter p).map f)) ?_ ?_ ?_ ?_
    · exact ⟨Hv1, [], Grow.newO g1.vis hD, upd_same, Same.free g1.vis hD, .nil⟩
    · rintro i H' _ ⟨Hv', acc, g2, _⟩
      exact hG Hv' H' g2.v g2.vis fun _ => g2.s
    · rintro i x H' H'' hlt ⟨Hv', acc, g2, hacc, hhid, hp⟩ y
      obtain ⟨Hv2, z, g3, ez, rz⟩ := hY i H' x H'' Hv' hlt g2.v g2.vis (fun _ => g2.s) y
      have mz : z ∈ ys := List.mem_of_getElem? ez
      have w2 := ((w1.grow g2).grow g3).wiped vs
      refine hg.run _ _ Hv2 H'' x z w2 rz _ fun σ' w3 hl' hj => ?_
      refine ⟨by rw [wipe_eq (is := is) hl' hj hi, wipe_wipe], ?_⟩
      refine ht z mz σ' Hv2 H'' w3 _ fun Hv3 H3 g4 => ?_
      have hd3 : H3 D = some (.lst acc) := g4.s _ _ (g3.s _ _ hacc)
      have nD : ∀ {A : Hp}, H'' D ≠ none := fun {A} => by rw [g3.s _ _ hacc]; exact fun z => nomatch z
      have hh2 : Hv2 D = none := g3.nw D (by rw [hacc]; exact fun z => nomatch z) hhid
      have hh3 : Hv3 D = none := g4.nw D (by rw [g3.s _ _ hacc]; exact fun z => nomatch z) hh2
      cases ep : p z with
      | false =>
        refine iteF ⟨Hv3, acc, (g2.trans g3).trans g4, hd3, hh3, ?_⟩
        rw [take_filter_map ez, ep]
        simpa using Paired.up (Same.trans g3.v g4.v) hp
      | true =>
        refine iteT ?_
        refine he z mz ep σ' Hv3 H3 (w3.grow g4) _ fun u Hv4 H4 g5 ru => ?_
        have hd4 : H4 D = some (.lst acc) := g5.s _ _ hd3
        have hh4 : Hv4 D = none := g5.nw D (by rw [hd3]; exact fun z => nomatch z) hh3
        have gg := ((g2.trans g3).trans g4).trans g5
        refine ⟨acc, hd4, ?_, Hv4, acc ++ [u], ⟨?_, gg.v, ?_, gg.nw⟩, upd_same, hh4, ?_⟩
        · rw [paired_len hp, List.length_map]
          refine Nat.lt_of_le_of_lt (Nat.le_trans (List.length_filter_le _ _) (by rw [List.length_take]; omega)) (show 1000 < sizeLine by decide)
        · intro b o e
          have hb : b ≠ D := ne_of_none e hD
          rw [upd_ne hb]
          exact gg.s _ _ e
        · intro b o e
          have hb : b ≠ D := ne_of_none e hh4
          rw [upd_ne hb]
          exact gg.vis _ _ e
        · rw [take_filter_map ez, ep]
          exact paired_app (Paired.up (Same.trans (Same.trans g3.v g4.v) g5.v) hp) (.cons ru .nil)
    · rintro H' ⟨Hv', acc, g2, hacc, hhid, hp⟩
      rw [List.take_length] at hp
      exact k D acc Hv' H' (g1.trans g2) (Same.free g1.s hD) hacc hhid hp
theorem smo_lc0 {wi : TI} {g : TG} {te : TE} {vs is : List Nat} {up : α → Cxt → Cxt} {ys : List α} {f : α → β} (hs : SmW B Γ false wi τ ys) (hg : Tgt B g τ up is) (hi : ∀ i ∈ is, i ∈ vs) (hl : ys.length ≤ 1000)
    (he : ∀ x ∈ ys, Sm B (up x (dels vs Γ)) te υ (f x)) : SmO B Γ (tLc wi g tYes te vs) υ (ys.map f) :=
  (smo_lc (p := fun _ => true) hs hg hi hl (fun _ _ => smt_yes) fun x m _ => he x m).cast (by congr 1; exact List.filter_eq_self.mpr fun _ _ => rfl)
end
end VC

set_option Elab.async false
set_option maxRecDepth 100000
set_option maxHeartbeats 4000000
namespace VC
open PySem PySem.Spec L2

/-! ### statements -/
def G (B : Bs) (t : TS) (Γ : Cxt) (D : Ends) : Prop := ∀ (σ : L2.St) (Hv H : Hp), Wd B Γ σ Hv H → t D σ H
/-- the same entry, later -/
structure Le (B0 B : Bs) : Prop where
  h0 : B.H0 = B0.H0
  ow : B.own = B0.own
  n : B.n = B0.n
  v0 : Same B0.Hv0 B.Hv0
  nw : ∀ b, ¬ B0.own b → B0.H0 b ≠ none → B0.Hv0 b = none → B.Hv0 b = none
theorem Le.refl (B : Bs) : Le B B := ⟨rfl, rfl, rfl, Same.refl _, fun _ _ _ h => h⟩
theorem Le.trans {A B C : Bs} (a : Le A B) (b : Le B C) : Le A C :=
  ⟨b.h0.trans a.h0, b.ow.trans a.ow, b.n.trans a.n, Same.trans a.v0 b.v0, fun x h1 h2 h3 => b.nw x (by rw [a.ow]; exact h1) (by rw [a.h0]; exact h2) (a.nw x h1 h2 h3)⟩
section
variable {B B0 B1 : Bs} {Γ : Cxt} {α β : Type} {τ : Ty α} {υ : Ty β} {x : α} {D : Ends} {K : PySem.W.Frag} {σ : L2.St} {Hv H : Hp}
theorem Wd.down (w : Wd B1 Γ σ Hv H) (l : Le B B1) : Wd B Γ σ Hv H where
  len := w.len.trans l.n
  vis := w.vis
  s0 := fun b o n e => w.s0 b o (by rw [l.ow]; exact n) (by rw [l.h0]; exact e)
  a0 := fun b n => w.a0 b (by rw [l.h0]; exact n)
  v0 := Same.trans l.v0 w.v0
  nw := fun b n h z => w.nw b (by rw [l.ow]; exact n) (by rw [l.h0]; exact h) (l.nw b n h z)
  ent := w.ent
  new := fun i e q m c s => by have := w.new i e q m c s; rw [l.h0, l.ow] at this; exact this
  dis := w.dis
theorem Wd.rise (w : Wd B Γ σ Hv H) : Le B { B with Hv0 := Hv } ∧ Wd { B with Hv0 := Hv } Γ σ Hv H :=
  ⟨⟨rfl, rfl, rfl, w.v0, w.nw⟩, ⟨w.len, w.vis, w.s0, w.a0, Same.refl _, fun _ _ _ h => h, w.ent, w.new, w.dis⟩⟩
theorem Wd.gr (w : Wd B Γ σ Hv H) (no : ∀ b, ¬ B.own b) : Grow B.Hv0 B.H0 Hv H := ⟨fun b o e => w.s0 b o (no b) e, w.v0, w.vis, fun b n z => w.nw b (no b) n z⟩

theorem g_assoc {s r u : TS} (h : G B (tSeq s (tSeq r u)) Γ D) : G B (tSeq (tSeq s r) u) Γ D := h
theorem g_next {u : TS} (h : G B u Γ D) : G B (tSeq tNext u) Γ D := h
theorem g_asg {te : TE} {i : Nat} {u : TS} (hi : i < B.n) (he : Sm B Γ te τ x) (h : ∀ y, y = x → G B u (put i (.fz τ y) Γ) D) : G B (tSeq (tAsg te (gName i)) u) Γ D := fun σ Hv H w =>
  he σ Hv H w _ fun v Hv1 H1 g1 r1 => h x rfl _ Hv1 H1 ((w.grow g1).put i hi r1)
theorem g_asgO {te : TE} {i : Nat} {u : TS} {xs : List α} (hi : i < B.n) (he : SmO B Γ te τ xs) (h : ∀ ys, ys = xs → G B u (put i (.cl τ ys) Γ) D) : G B (tSeq (tAsg te (gName i)) u) Γ D := fun σ Hv H w =>
  he σ Hv H w _ fun l vs Hv1 H1 g1 e0 e1 e2 r1 => by
    have w1 := w.grow g1
    refine h xs rfl _ Hv1 H1 (w1.putO i hi ⟨e1, e2, ?_, fun j e m c s => ?_⟩ r1)
    · cases q : B.H0 l with
      | none => exact .inl rfl
      | some o => exact absurd e0 (w.a0 l (by rw [q]; exact fun z => nomatch z))
    · cases e with
      | cl τ' zs =>
        obtain ⟨l', ws, h1, h2, _⟩ := w.ent j _ m
        rw [s] at h1
        cases h1
        rw [e0] at h2
        cases h2
      | ob l' dx C as =>
        obtain ⟨fs, h1, h2, _⟩ := w.ent j _ m
        rw [s] at h1
        cases h1
        rw [e0] at h2
        cases h2
      | fz => cases c
      | gh => cases c
/-- a, b = e -/
theorem g_asgT {te : TE} {i j : Nat} {u : TS} {p : α × β} (hi : i < B.n) (hj : j < B.n) (he : Sm B Γ te (tTup2 τ υ) p) (h : ∀ y z, y = p.1 → z = p.2 → G B u (put j (.fz υ z) (put i (.fz τ y) Γ)) D) :
    G B (tSeq (tAsg te (gTup K 2 (gCons (gName i) (gCons (gName j) gNil)))) u) Γ D := fun σ Hv H w =>
  he σ Hv H w _ fun v Hv1 H1 g1 r1 => (tgt_tup (τ := τ) (υ := υ) hi hj).run _ _ _ _ _ _ (w.grow g1) r1 _ fun σ' w' _ _ => h _ _ rfl rfl _ _ _ w'
theorem g_if {c : TT} {t e u : TS} {b : Bool} (hc : SmT B Γ c b) (h1 : b = true → G B (tSeq t u) Γ D) (h2 : b = false → G B (tSeq e u) Γ D) : G B (tSeq (tIfS c t e) u) Γ D := fun σ Hv H w =>
  hc σ Hv H w _ fun Hv1 H1 g1 => by
    cases b with
    | true => exact iteT (h1 rfl σ Hv1 H1 (w.grow g1))
    | false => exact iteF (h2 rfl σ Hv1 H1 (w.grow g1))
theorem g_drop {te : TE} {u : TS} (he : Sm B Γ te τ x) (h : G B u Γ D) : G B (tSeq (tDrop te) u) Γ D := fun σ Hv H w => he σ Hv H w _ fun v Hv1 H1 g1 r1 => h σ Hv1 H1 (w.grow g1)
/-- the own list at i stands still from now on -/
theorem g_freeze {t : TS} {xs : List α} (i : Nat) (m : get i Γ = some (.cl τ xs)) (h : G B t (put i (.fz (tList τ) xs) Γ) D) : G B t Γ D := fun σ Hv H w => by
  obtain ⟨Hv', _, w'⟩ := w.freeze i (get_mem m)
  exact h σ Hv' H w'
theorem g_append {te : TE} {i : Nat} {u : TS} {xs : List α} (m : get i Γ = some (.cl τ xs)) (he : Sm B Γ te τ x) (hl : xs.length < 1000) (h : ∀ ys, ys = xs ++ [x] → G B u (put i (.cl τ ys) Γ) D) :
    G B (tSeq (tDrop (tBM K "list" rAppend (tVar i) (tCons te tNil))) u) Γ D := fun σ Hv H w => by
  obtain ⟨l, vs, e1, e2, e3, r⟩ := w.ent i _ (get_mem m)
  refine ⟨_, e1, .inl ⟨rfl, vs, SqL.of e2⟩, he σ Hv H w _ fun v Hv1 H1 g1 r1 => ?_⟩
  refine ⟨l, vs, v, rfl, rfl, g1.s _ _ e2, by rw [paired_len r]; exact Nat.lt_of_lt_of_le hl (by decide), ?_⟩
  exact h _ rfl σ Hv1 _ ((w.grow g1).chg i (get_mem m) e1 (paired_app (Paired.up g1.v r) (.cons r1 .nil)))
theorem g_setI {te ti : TE} {i : Nat} {u : TS} {xs : List α} {k : Int} (m : get i Γ = some (.cl τ xs)) (he : Sm B Γ te τ x) (hk : Sm B Γ ti tInt k) (h0 : 0 ≤ k) (hl : k.toNat < xs.length) (h : ∀ ys, ys = xs.set k.toNat x → G B u (put i (.cl τ ys) Γ) D) :
    G B (tSeq (tAsg te (gSub (tVar i) ti rSetL)) u) Γ D := fun σ Hv H w =>
  he σ Hv H w _ fun v Hv1 H1 g1 r1 => by
    obtain ⟨l, vs, e1, e2, e3, r⟩ := (w.grow g1).ent i _ (get_mem m)
    refine ⟨_, e1, hk σ Hv1 H1 (w.grow g1) _ fun v2 Hv2 H2 g2 r2 => ?_⟩
    cases r2
    refine ⟨l, vs, k, k.toNat, rfl, rfl, g2.s _ _ e2, ?_, ?_⟩
    · unfold ixN
      rw [if_pos h0, paired_len r, if_pos (by omega)]
    · exact h _ rfl σ Hv2 _ (((w.grow g1).grow g2).chg i (get_mem m) e1 (paired_set (τ.mono g2.v r1) _ (Paired.up g2.v r)))
theorem g_aug {te : TE} {i : Nat} {u : TS} {g : Int → Int → Int} {a b : Int} (hi : i < B.n) (m : get i Γ = some (.fz tInt a)) (he : Sm B Γ te tInt b) (h : ∀ y, y = g a b → G B u (put i (.fz tInt y) Γ) D) :
    G B (tSeq (tAug i te (ipI g)) u) Γ D := fun σ Hv H w => by
  obtain ⟨v, e, r⟩ := w.ent i _ (get_mem m)
  cases r
  refine ⟨_, e, he σ Hv H w _ fun v1 Hv1 H1 g1 r1 => ?_⟩
  cases r1
  exact ⟨a, b, rfl, rfl, h _ rfl _ Hv1 H1 ((w.grow g1).put i hi rfl)⟩

/-! ### ends -/
structure RtF (B0 : Bs) (τ : Ty α) (y : α) (Q : VK) : Prop where
  no : ∀ b, ¬ B0.own b
  run : ∀ v Hv H, Grow B0.Hv0 B0.H0 Hv H → τ.rep Hv v y → Q v H
structure RtO (B0 : Bs) (τ : Ty α) (ys : List α) (Q : VK) : Prop where
  no : ∀ b, ¬ B0.own b
  run : ∀ l vs Hv H, Grow B0.Hv0 B0.H0 Hv H → B0.H0 l = none → H l = some (.lst vs) → Hv l = none → Paired (τ.rep Hv) vs ys → Q (.ref l) H
theorem RtO.toF {ys : List α} {Q : VK} (no : ∀ b, ¬ B0.own b) (h : RtF B0 (tList τ) ys Q) : RtO B0 τ ys Q := ⟨no, fun l vs Hv H g e0 e1 e2 r => by
  obtain ⟨s1, s2⟩ := Grow.see g.vis e1 e2
  refine h.run _ (upd Hv l (.lst vs)) H ⟨g.s, Same.trans g.v s1, s2, fun b n z => ?_⟩ ⟨l, vs, rfl, upd_same, Paired.up s1 r⟩
  have hb : b ≠ l := fun q => n (q ▸ e0)
  rw [upd_ne hb]
  exact g.nw b n z⟩
theorem g_ret {te : TE} {u : TS} {y : α} (l : Le B0 B) (R : RtF B0 τ y D.rt) (he : Sm B Γ te τ x) (e : x = y) : G B (tSeq (tRet te) u) Γ D := fun σ Hv H w =>
  he σ Hv H w _ fun v Hv1 H1 g1 r1 => R.run v Hv1 H1 (((w.grow g1).down l).gr R.no) (e ▸ r1)
theorem g_retN {u : TS} {y : Unit} (l : Le B0 B) (R : RtF B0 tNon y D.rt) : G B (tSeq tRetN u) Γ D := fun σ Hv H w => R.run .non Hv H ((w.down l).gr R.no) rfl
theorem g_retNo {u : TS} {y : Option α} (l : Le B0 B) (R : RtF B0 (tOpt τ) y D.rt) (e : none = y) : G B (tSeq tRetN u) Γ D := fun σ Hv H w => R.run .non Hv H ((w.down l).gr R.no) (e ▸ rfl)
theorem Le.noo (l : Le B0 B) (no : ∀ b, ¬ B0.own b) : ∀ b, ¬ B.own b := fun b => by rw [l.ow]; exact no b
/-- return of a new list -/
theorem g_retO {te : TE} {u : TS} {xs ys : List α} (l : Le B0 B) (R : RtO B0 τ ys D.rt) (he : SmO B Γ te τ xs) (e : xs = ys) : G B (tSeq (tRet te) u) Γ D := fun σ Hv H w =>
  he σ Hv H w _ fun p vs Hv1 H1 g1 e0 e1 e2 r1 => by
    refine R.run p vs Hv1 H1 (((w.grow g1).down l).gr R.no) ?_ e1 e2 (e ▸ r1)
    cases q : B0.H0 p with
    | none => rfl
    | some o => exact absurd e0 ((w.down l).a0 p (by rw [q]; exact fun z => nomatch z))
/-- return of the own list at i -/
theorem g_retC {i : Nat} {u : TS} {xs ys : List α} (l : Le B0 B) (R : RtO B0 τ ys D.rt) (m : get i Γ = some (.cl τ xs)) (e : xs = ys) : G B (tSeq (tRet (tVar i)) u) Γ D := fun σ Hv H w => by
  obtain ⟨p, vs, e1, e2, e3, r⟩ := w.ent i _ (get_mem m)
  refine ⟨_, e1, R.run p vs Hv H ((w.down l).gr R.no) ?_ e2 e3 (e ▸ r)⟩
  have := (w.down l).new i _ p (get_mem m) rfl e1
  exact this.resolve_right (R.no p)
theorem g_end {y : Unit} (l : Le B0 B) (R : RtF B0 tNon y Q) (hn : D.nx = fun _ H' => Q .non H') : G B tNext Γ D := fun σ Hv H w => by
  show D.nx σ H
  rw [hn]
  exact R.run .non Hv H ((w.down l).gr R.no) rfl

/-! ### loops -/
def Sub : Cxt → Cxt → Prop
  | [], _ => True
  | (i, e) :: L, Γ => get i Γ = some e ∧ Sub L Γ
theorem Sub.mem : ∀ {L Γ : Cxt}, Sub L Γ → ∀ p ∈ L, p ∈ Γ
  | (i, e) :: L, Γ, ⟨h1, h2⟩, p, m => by
    rcases List.mem_cons.mp m with rfl | m
    · exact get_mem h1
    · exact Sub.mem h2 p m
def LoopN {S : Type} (B : Bs) (I : S → Prop) (L : S → Cxt) : L2.St → Hp → Prop := fun σ H => ∃ s Hv, I s ∧ Wd B (L s) σ Hv H
theorem g_for {S : Type} {wi : TI} {g : TG} {tb u : TS} {ys : List α} {up : α → Cxt → Cxt} {is : List Nat} (hs : SmW B Γ true wi τ ys) (hg : ∀ B1 : Bs, B1.n = B.n → Tgt B1 g τ up is) (I : Nat → S → Prop) (L : S → Cxt) (s0 : S) (hL : Sub (L s0) Γ) (h0 : I 0 s0)
    (hb : ∀ B1, Le B B1 → ∀ i s x, ys[i]? = some x → I i s → G B1 tb (up x (L s)) { nx := LoopN B1 (I (i + 1)) L, rt := D.rt, ct := LoopN B1 (I (i + 1)) L, bk := u D })
    (hr : ∀ s, I ys.length s → G B u (L s) D) : G B (tSeq (tFor wi g tb) u) Γ D := fun σ Hv H w =>
  hs σ Hv H w _ fun J Gd Y Hv1 H1 g1 wk hG hY => by
    obtain ⟨l1, w1⟩ := (w.grow g1).rise
    refine for_it wk (D := { D with nx := u D }) (fun i σ' H' => LoopN { B with Hv0 := Hv1 } (I i) L σ' H') ⟨s0, Hv1, h0, w1.sub hL.mem⟩ ?_ ?_ ?_
    · rintro i σ' H' _ ⟨s, Hv', _, w'⟩
      exact hG Hv' H' w'.v0 w'.vis fun z => nomatch z
    · rintro i v σ' H' H'' hlt ⟨s, Hv', hI, w'⟩ y
      obtain ⟨Hv2, z, g3, ez, rz⟩ := hY i H' v H'' Hv' hlt w'.v0 w'.vis (fun z => nomatch z) y
      exact (hg { B with Hv0 := Hv1 } rfl).run _ _ Hv2 H'' v z (w'.grow g3) rz _ fun σ2 w2 _ _ => hb _ l1 i s z ez hI σ2 Hv2 H'' w2
    · rintro σ' H' ⟨s, Hv', hI, w'⟩
      exact hr s hI σ' Hv' H' (w'.down l1)
theorem g_loop {S : Type} {I : S → Prop} {L : S → Cxt} (s : S) (hn : D.nx = LoopN B I L) (hL : Sub (L s) Γ) (h : I s) : G B tNext Γ D := fun σ Hv H w => by
  show D.nx σ H
  rw [hn]
  exact ⟨s, Hv, h, w.sub hL.mem⟩
theorem g_cont {S : Type} {I : S → Prop} {L : S → Cxt} {u : TS} (s : S) (hn : D.ct = LoopN B I L) (hL : Sub (L s) Γ) (h : I s) : G B (tSeq tCont u) Γ D := fun σ Hv H w => by
  show D.ct σ H
  rw [hn]
  exact ⟨s, Hv, h, w.sub hL.mem⟩
theorem g_break {D' : Ends} {u r : TS} (hb : D.bk = u D') (h : G B u Γ D') : G B (tSeq tBreak r) Γ D := fun σ Hv H w => by
  show D.bk σ H
  rw [hb]
  exact h σ Hv H w
theorem g_while {S : Type} {c : TT} {tb u : TS} (I : S → Prop) (L : S → Cxt) (μ : S → Nat) (b : S → Bool) (s0 : S) (hL : Sub (L s0) Γ) (h0 : I s0) (hc : ∀ s, I s → SmT B (L s) c (b s))
    (hb : ∀ s, I s → b s = true → G B tb (L s) { nx := LoopN B (fun s' => I s' ∧ μ s' < μ s) L, rt := D.rt, ct := LoopN B (fun s' => I s' ∧ μ s' < μ s) L, bk := u D })
    (hr : ∀ s, I s → b s = false → G B u (L s) D) : G B (tSeq (tWhile c tb) u) Γ D := fun σ Hv H w => by
  refine ⟨fun m σ' H' => LoopN B (fun s => I s ∧ μ s = m) L σ' H', ⟨μ s0, s0, Hv, ⟨h0, rfl⟩, w.sub hL.mem⟩, ?_⟩
  rintro m σ' H' ⟨s, Hv', ⟨hI, rfl⟩, w'⟩
  refine hc s hI σ' Hv' H' w' _ fun Hv1 H1 g1 => ?_
  cases e : b s with
  | true => exact iteT ⟨_, fun σ2 H2 ⟨s2, Hv2, ⟨i2, lt⟩, w2⟩ => ⟨_, lt, s2, Hv2, ⟨i2, rfl⟩, w2⟩, hb s hI e σ' Hv1 H1 (w'.grow g1)⟩
  | false => exact iteF (hr s hI e σ' Hv1 H1 (w'.grow g1))

/-! ### defs -/
def argC : Nat → List As → Cxt
  | _, [] => []
  | i, a :: as => (i, .fz a.τ a.x) :: argC (i + 1) as
theorem argC_ge : ∀ {as : List As} {i j : Nat} {e : Ent}, (j, e) ∈ argC i as → i ≤ j ∧ e.isCl = false
  | a :: as, i, j, e, m => by
    rcases List.mem_cons.mp m with h | m
    · cases h
      exact ⟨Nat.le_refl _, rfl⟩
    · have := argC_ge m
      exact ⟨by omega, this.2⟩
theorem argC_at {Hv : Hp} {σ : L2.St} {H : Hp} {vs : List V} {as : List As} (r : Reps Hv vs as) : ∀ {i : Nat}, (∀ k v, vs[k]? = some v → σ[i + k]? = some (some v)) → ∀ j e, (j, e) ∈ argC i as → EntOk σ Hv H j e := by
  induction r with
  | nil => intro i _ j e m; cases m
  | cons ra _ ih =>
    intro i hσ j e m
    rcases List.mem_cons.mp m with h | m
    · cases h
      exact ⟨_, hσ 0 _ rfl, ra⟩
    · exact ih (i := i + 1) (fun k v hk => by rw [show i + 1 + k = i + (k + 1) by omega]; exact hσ (k + 1) v (by simpa using hk)) j e m
theorem Reps.len {Hv : Hp} {vs : List V} {as : List As} (r : Reps Hv vs as) : vs.length = as.length := by
  induction r with
  | nil => rfl
  | cons _ _ ih => simp [ih]
theorem wd_start {N : List Str} {vs : List V} {as : List As} (vis : Same Hv H) (r : Reps Hv vs as) (hl : as.length ≤ N.length) : Wd ⟨H, Hv, fun _ => False, N.length⟩ (argC 0 as) (L2.start N vs) Hv H where
  len := by
    unfold L2.start
    rw [List.length_append, List.length_map, List.length_replicate]
    have := r.len
    show vs.length + (N.length - vs.length) = N.length
    omega
  vis := vis
  s0 := fun _ _ _ e => e
  a0 := fun _ n => n
  v0 := Same.refl _
  nw := fun _ _ _ h => h
  ent := argC_at r fun k v hk => by
    have hk' := (List.getElem?_eq_some_iff.mp hk).1
    unfold L2.start
    rw [Nat.zero_add, List.getElem?_append_left (by simpa using hk'), List.getElem?_map, hk]
    rfl
  new := fun i e l m c => by
    rw [(argC_ge m).2] at c
    cases c
  dis := fun i j e f l m _ c => by
    rw [(argC_ge m).2] at c
    cases c
/-- a def that gives a value that stands still -/
def spF {ρ γ : Type} (as : ρ → List As) (pre : ρ → Prop) (τ : Ty γ) (f : ρ → γ) : Sp := fun vs H Q _ => ∃ (r : ρ) (Hv : Hp), Same Hv H ∧ Reps Hv vs (as r) ∧ pre r ∧ ∀ v Hv' H', Grow Hv H Hv' H' → τ.rep Hv' v (f r) → Q v H'
/-- a def that gives a new list -/
def spO {ρ γ : Type} (as : ρ → List As) (pre : ρ → Prop) (τ : Ty γ) (f : ρ → List γ) : Sp := fun vs H Q _ => ∃ (r : ρ) (Hv : Hp), Same Hv H ∧ Reps Hv vs (as r) ∧ pre r ∧
  ∀ l us Hv' H', Grow Hv H Hv' H' → H l = none → H' l = some (.lst us) → Hv' l = none → Paired (τ.rep Hv') us (f r) → Q (.ref l) H'
section
variable {ρ γ : Type} {as : ρ → List As} {pre : ρ → Prop} {φ : Ty γ} {vs : List V} {Q : VK} {E : XK}
theorem spF_len {f : ρ → γ} {n : Nat} (hn : ∀ r, (as r).length = n) (h : spF as pre φ f vs H Q E) : vs.length = n := by
  obtain ⟨r, _, _, h, _⟩ := h
  rw [h.len, hn]
theorem spO_len {f : ρ → List γ} {n : Nat} (hn : ∀ r, (as r).length = n) (h : spO as pre φ f vs H Q E) : vs.length = n := by
  obtain ⟨r, _, _, h, _⟩ := h
  rw [h.len, hn]
theorem spF_body {f : ρ → γ} {N : List Str} {t : TS} (hl : ∀ r, (as r).length ≤ N.length) (h : spF as pre φ f vs H Q E) (hb : ∀ B0 : Bs, B0.n = N.length → ∀ r, pre r → RtF B0 φ (f r) Q → G B0 t (argC 0 (as r)) { nx := fun _ H' => Q .non H', rt := Q }) : t { nx := fun _ H' => Q .non H', rt := Q } (L2.start N vs) H := by
  obtain ⟨r, Hv, vis, rs, p, k⟩ := h
  exact hb ⟨H, Hv, fun _ => False, N.length⟩ rfl r p ⟨fun _ z => z, k⟩ _ _ _ (wd_start vis rs (hl r))
theorem spO_body {f : ρ → List γ} {N : List Str} {t : TS} (hl : ∀ r, (as r).length ≤ N.length) (h : spO as pre φ f vs H Q E) (hb : ∀ B0 : Bs, B0.n = N.length → ∀ r, pre r → RtO B0 φ (f r) Q → G B0 t (argC 0 (as r)) { nx := fun _ H' => Q .non H', rt := Q }) : t { nx := fun _ H' => Q .non H', rt := Q } (L2.start N vs) H := by
  obtain ⟨r, Hv, vis, rs, p, k⟩ := h
  exact hb ⟨H, Hv, fun _ => False, N.length⟩ rfl r p ⟨fun _ z => z, k⟩ _ _ _ (wd_start vis rs (hl r))
theorem sm_call {f : ρ → γ} {t : TA} (r : ρ) (ha : SmA B Γ t (as r)) (hp : pre r) : Sm B Γ (tCall (spF as pre φ f) [] E t) φ (f r) := fun σ Hv H w Q k =>
  ha σ Hv H w _ fun us Hv1 H1 g1 rs => by
    show spF as pre φ f (us ++ []) H1 Q E
    rw [List.append_nil]
    exact ⟨r, Hv1, g1.vis, rs, hp, fun v Hv2 H2 g2 r2 => k _ _ _ (g1.trans g2) r2⟩
theorem smo_call {f : ρ → List γ} {t : TA} (r : ρ) (ha : SmA B Γ t (as r)) (hp : pre r) : SmO B Γ (tCall (spO as pre φ f) [] E t) φ (f r) := fun σ Hv H w Q k =>
  ha σ Hv H w _ fun us Hv1 H1 g1 rs => by
    show spO as pre φ f (us ++ []) H1 Q E
    rw [List.append_nil]
    exact ⟨r, Hv1, g1.vis, rs, hp, fun l us Hv2 H2 g2 e0 e1 e2 r2 => k _ _ _ _ (g1.trans g2) (Same.free g1.s e0) e1 e2 r2⟩
end

/-! ### objects that stand still -/
def tObj {α : Type} (C : Addr) (sch : α → List (Str × As)) : Ty α := ⟨fun H v x => ∃ a dx fs, v = .ref a ∧ H a = some (.ins C dx fs) ∧ FsRep H fs (sch x), fun s ⟨a, dx, fs, e, h, r⟩ => ⟨a, dx, fs, e, s _ _ h, r.up s⟩⟩
def ixOf : List Str → Str → Option Nat
  | [], _ => none
  | n :: ns, m => if m = n then some 0 else (ixOf ns m).map (· + 1)
theorem FsRep.get {H : Hp} {fs : List (Str × V)} {as : List (Str × As)} {n : Str} (h : FsRep H fs as) : ∀ {k : Nat} {a : As}, ixOf (as.map (·.1)) n = some k → as[k]? = some (n, a) → ∃ v, fs.lookup n = some v ∧ a.τ.rep H v a.x := by
  induction h with
  | nil => intro k a e; cases e
  | cons r _ ih =>
    intro k a e e2
    rename_i m v fs b as _
    by_cases hn : n = m
    · subst hn
      simp only [List.map_cons, ixOf, if_pos] at e
      cases e
      cases e2
      exact ⟨v, by simp [List.lookup], r⟩
    · simp only [List.map_cons, ixOf, if_neg hn] at e
      cases q : ixOf (as.map (·.1)) n with
      | none => rw [q] at e; cases e
      | some j =>
        rw [q] at e
        cases e
        obtain ⟨v, h1, h2⟩ := ih q e2
        refine ⟨v, ?_, h2⟩
        have : (n == m) = false := by simpa using hn
        simp [List.lookup, this, h1]
theorem FsRep.none {H : Hp} {fs : List (Str × V)} {as : List (Str × As)} {n : Str} (h : FsRep H fs as) : ixOf (as.map (·.1)) n = none → fs.lookup n = none := by
  induction h with
  | nil => intro _; rfl
  | cons r _ ih =>
    intro e
    rename_i m v fs b as _
    by_cases hn : n = m
    · subst hn
      simp only [List.map_cons, ixOf, if_pos] at e
      cases e
    · simp only [List.map_cons, ixOf, if_neg hn] at e
      cases q : ixOf (as.map (·.1)) n with
      | none =>
        have : (n == m) = false := by simpa using hn
        simp [List.lookup, this, ih q]
      | some j => rw [q] at e; cases e
theorem sm_fld {C : Addr} {sch : α → List (Str × As)} {t : TE} {f : Str} {y : β} (h : Sm B Γ t (tObj C sch) x) (ns : List Str) (k : Nat) (hk : ixOf ns f = some k) (c : Cls K C) (n : NoAttr K C f) (hns : (sch x).map (·.1) = ns) (e : (sch x)[k]? = some (f, ⟨υ, y⟩)) : Sm B Γ (tFld K t f) υ y := fun σ Hv H w Q q =>
  h σ Hv H w _ fun v Hv1 H1 g1 ⟨a, dx, fs, ev, ha, r⟩ => by
    obtain ⟨u, h1, h2⟩ := r.get (by rw [hns]; exact hk) e
    exact ⟨a, C, dx, fs, u, ev, g1.vis _ _ ha, c, n, h1, q _ _ _ g1 h2⟩
section
variable {ρ γ : Type} {as : ρ → List As} {pre : ρ → Prop} {φ : Ty γ} {E : XK}
theorem sm_meth {C : Addr} {sch : α → List (Str × As)} {m : Str} {f : ρ → γ} {ta : TE} {t : TA} {as' : List As} (r : ρ) (h : Sm B Γ ta (tObj C sch) x) (ns : List Str) (hm : ixOf ns m = none) (hns : (sch x).map (·.1) = ns) (e : as r = ⟨tObj C sch, x⟩ :: as') (ha : SmA B Γ t as') (hp : pre r) :
    Sm B Γ (tMeth C m (spF as pre φ f) [] E ta t) φ (f r) := fun σ Hv H w Q k =>
  h σ Hv H w _ fun v Hv1 H1 g1 rv => by
    have rv' := rv
    obtain ⟨a, dx, fs, ev, h1, r1⟩ := rv
    refine ⟨a, dx, fs, ev, g1.vis _ _ h1, r1.none (by rw [hns]; exact hm), ha σ Hv1 H1 (w.grow g1) _ fun us Hv2 H2 g2 rs => ?_⟩
    show spF as pre φ f (v :: (us ++ [])) H2 Q E
    rw [List.append_nil]
    exact ⟨r, Hv2, g2.vis, e.symm ▸ .cons ((tObj C sch).mono g2.v rv') rs, hp, fun v Hv3 H3 g3 r3 => k _ _ _ ((g1.trans g2).trans g3) r3⟩
theorem smo_meth {C : Addr} {sch : α → List (Str × As)} {m : Str} {f : ρ → List γ} {ta : TE} {t : TA} {as' : List As} (r : ρ) (h : Sm B Γ ta (tObj C sch) x) (ns : List Str) (hm : ixOf ns m = none) (hns : (sch x).map (·.1) = ns) (e : as r = ⟨tObj C sch, x⟩ :: as') (ha : SmA B Γ t as') (hp : pre r) :
    SmO B Γ (tMeth C m (spO as pre φ f) [] E ta t) φ (f r) := fun σ Hv H w Q k =>
  h σ Hv H w _ fun v Hv1 H1 g1 rv => by
    have rv' := rv
    obtain ⟨a, dx, fs, ev, h1, r1⟩ := rv
    refine ⟨a, dx, fs, ev, g1.vis _ _ h1, r1.none (by rw [hns]; exact hm), ha σ Hv1 H1 (w.grow g1) _ fun us Hv2 H2 g2 rs => ?_⟩
    show spO as pre φ f (v :: (us ++ [])) H2 Q E
    rw [List.append_nil]
    exact ⟨r, Hv2, g2.vis, e.symm ▸ .cons ((tObj C sch).mono g2.v rv') rs, hp, fun l us Hv3 H3 g3 e0 e1 e2 r3 => k _ _ _ _ ((g1.trans g2).trans g3) (Same.free (g1.trans g2).s e0) e1 e2 r3⟩
end
end
end VC

set_option Elab.async false
set_option maxRecDepth 100000
set_option maxHeartbeats 4000000
namespace VC
open PySem PySem.Spec L2

/-! ### names of the top -/
theorem bb_len : bootBuiltins "len" = some (.builtin "len") := by decide +kernel
theorem bb_isinstance : bootBuiltins "isinstance" = some (.builtin "isinstance") := by decide +kernel
theorem bb_min : bootBuiltins "min" = some (.builtin "min") := by decide +kernel
theorem bb_max : bootBuiltins "max" = some (.builtin "max") := by decide +kernel
theorem bb_list : bootBuiltins "list" = some (.type "list") := by decide +kernel
theorem bb_int : bootBuiltins "int" = some (.type "int") := by decide +kernel
theorem bb_bool : bootBuiltins "bool" = some (.type "bool") := by decide +kernel
theorem bb_str : bootBuiltins "str" = some (.type "str") := by decide +kernel
theorem bb_tuple : bootBuiltins "tuple" = some (.type "tuple") := by decide +kernel
theorem bb_dict : bootBuiltins "dict" = some (.type "dict") := by decide +kernel
theorem bb_ValueError : bootBuiltins "ValueError" = some (.type "ValueError") := by decide +kernel
theorem bb_sum : bootBuiltins "sum" = some (.builtin "sum") := by decide +kernel
theorem bb_all : bootBuiltins "all" = some (.builtin "all") := by decide +kernel
theorem bb_any : bootBuiltins "any" = some (.builtin "any") := by decide +kernel
theorem bb_abs : bootBuiltins "abs" = some (.builtin "abs") := by decide +kernel
theorem bb_divmod : bootBuiltins "divmod" = some (.builtin "divmod") := by decide +kernel
theorem bb_sorted : bootBuiltins "sorted" = some (.builtin "sorted") := by decide +kernel
section
variable {X : Cx}
theorem pe_gI {x : Str} {n : Int} {pos : Pos} (hm : ∃ t, X.mg x = some (.int n t)) (hg : Gl X x := by rfl) (hd : (x == ("__debug__" : Str)) = false := by decide) : PE X (.Name x pos) (tC (.int n)) := by
  obtain ⟨t, h⟩ := hm
  exact pe_glob hg h ⟨_, rfl⟩ hd
theorem pe_gS {x : Str} {n : Str} {pos : Pos} (hm : ∃ t, X.mg x = some (.str n t)) (hg : Gl X x := by rfl) (hd : (x == ("__debug__" : Str)) = false := by decide) : PE X (.Name x pos) (tC (.str n)) := by
  obtain ⟨t, h⟩ := hm
  exact pe_glob hg h ⟨_, rfl⟩ hd
/-- a built-in class as a value -/
theorem pe_ty {x : Str} {T : String} {pos : Pos} (hm : X.mg x = none) (hv : bootBuiltins x = some (.type T)) (hg : Gl X x := by rfl) (hn : x ≠ "__name__" := by decide) (hd : (x == ("__debug__" : Str)) = false := by decide) : PE X (.Name x pos) (tC (.ty T)) := pe_bltn hg hm hv rfl hn hd
/-- a class of the text as a value -/
theorem pe_cls {x : Str} {C : Addr} {pos : Pos} (hm : X.mg x = some (.ref C)) (hg : Gl X x := by rfl) (hd : (x == ("__debug__" : Str)) = false := by decide) : PE X (.Name x pos) (tC (.ref C)) := pe_glob hg hm rfl hd

/-! ### written ints -/
def isInts : List Expr → Option (List Int)
  | [] => some []
  | .Constant (.int i) _ _ :: es => (isInts es).map (i :: ·)
  | _ => none
def tInts (ns : List Int) : TA := fun _ H Q => Q (ns.map V.int) H
theorem pa_ints : ∀ {es : List Expr} {ns : List Int}, isInts es = some ns → PA X es (tInts ns)
  | [], ns, h => by
    cases h
    exact pa_nil
  | e :: es, ns, h => by
    cases e with
    | Constant c j pos =>
      cases c with
      | int i =>
        unfold isInts at h
        cases q : isInts es with
        | none => rw [q] at h; cases h
        | some ms =>
          rw [q] at h
          cases h
          have r := pa_cons (X := X) (pe_int (i := i) (j := j) (pos := pos)) (pa_ints q)
          exact r
      | _ => cases h
    | _ => cases h
end
section
variable {B : Bs} {Γ : Cxt} {α β : Type} {τ : Ty α} {υ : Ty β} {x : α} {y : β} {K : PySem.W.Frag}
theorem smo_ints {ns : List Int} (h : ns.length ≤ 1000) : SmO B Γ (tLst (tInts ns)) tInt ns := fun σ Hv H w Q k => by
  refine ⟨by rw [List.length_map]; exact seq_lt h, fun p hp => ?_⟩
  exact k p _ Hv _ (Grow.newO w.vis hp) hp upd_same (Same.free w.vis hp) int_paired

/-! ### isinstance -/
structure TyIs (K : PySem.W.Frag) (τ : Ty α) (t : Value) : Prop where
  run : ∀ H v x, τ.rep H v x → TyX K H v t
theorem ti_int : TyIs K tInt (.type "int") := ⟨fun H v x h => by cases h; exact .base (.int x)⟩
theorem ti_bool : TyIs K tBool (.type "bool") := ⟨fun H v x h => by cases h; exact .base (.bl x)⟩
theorem ti_str : TyIs K tStr (.type "str") := ⟨fun H v x h => by cases h; exact .base (.str x)⟩
theorem ti_list : TyIs K (tList τ) (.type "list") := ⟨fun H v x ⟨a, vs, e, h, _⟩ => by subst e; exact .base (.lst h)⟩
theorem ti_tup2 : TyIs K (tTup2 τ υ) (.type "tuple") := ⟨fun H v x ⟨a, v1, v2, e, h, _⟩ => by subst e; exact .base (.tup h)⟩
theorem TyX.up {H H' : Hp} {v : V} {t : Value} (s : Same H H') (h : TyX K H v t) : TyX K H' v t := by
  cases h with
  | base b =>
    cases b with
    | non => exact .base .non
    | bl b => exact .base (.bl b)
    | int i => exact .base (.int i)
    | str z => exact .base (.str z)
    | flt b => exact .base (.flt b)
    | lst e => exact .base (.lst (s _ _ e))
    | frz e => exact .base (.frz (s _ _ e))
    | tup e => exact .base (.tup (s _ _ e))
    | dK e => exact .base (.dK (s _ _ e))
    | dT e => exact .base (.dT (s _ _ e))
    | ins e c h1 h2 h3 h4 => exact .base (.ins (s _ _ e) c h1 h2 h3 h4)
  | byt b => exact .byt b
  | set e => exact .set (s _ _ e)
  | kList e c => exact .kList e c
  | kTuple e c => exact .kTuple e c
  | kDict e c => exact .kDict e c
  | fTuple e => exact .fTuple (s _ _ e)
  | fDict e => exact .fDict (s _ _ e)
theorem sm_isi {t : TE} {c : String} {T : String} {b : Bool} (h : Sm B Γ t τ x) (ti : TyIs K τ (.type T)) (e : kitB T c = some b) : Sm B Γ (tCB (rIsi K) (tCons t (tCons (tC (.ty c)) tNil))) tBool b := fun σ Hv H w Q k =>
  h σ Hv H w _ fun v Hv1 H1 g1 r1 => ⟨v, .ty c, .type T, .type c, b, rfl, .ty c, TyX.up g1.vis (ti.run _ _ _ r1), kit_ty e, k _ _ _ g1 rfl⟩
/-- of a list of one's own -/
theorem sm_isiL {t : TE} {c : String} {b : Bool} {xs : List α} (h : SmL B Γ t τ xs) (e : kitB "list" c = some b) : Sm B Γ (tCB (rIsi K) (tCons t (tCons (tC (.ty c)) tNil))) tBool b := fun σ Hv H w Q k =>
  h σ Hv H w _ fun a vs Hv1 H1 g1 e1 r1 => ⟨.ref a, .ty c, .type "list", .type c, b, rfl, .ty c, .base (.lst e1), kit_ty e, k _ _ _ g1 rfl⟩

/-! ### built-ins -/
theorem sm_max2 {t u : TE} {i j : Int} (h : Sm B Γ t tInt i) (h' : Sm B Γ u tInt j) : Sm B Γ (tCB (fun xs H Q => ∃ i j, xs = [.int i, .int j] ∧ Q (.int (if j > i then j else i)) H) (tCons t (tCons u tNil))) tInt (max i j) := fun σ Hv H w Q k =>
  h σ Hv H w _ fun v Hv1 H1 g1 r1 => h' σ Hv1 H1 (w.grow g1) _ fun u Hv2 H2 g2 r2 => by
    cases r1; cases r2
    refine ⟨i, j, rfl, k _ _ _ (g1.trans g2) (congrArg V.int ?_)⟩
    by_cases h : j > i
    · rw [if_pos h]; omega
    · rw [if_neg h]; omega
theorem sm_min2 {t u : TE} {i j : Int} (h : Sm B Γ t tInt i) (h' : Sm B Γ u tInt j) : Sm B Γ (tCB (fun xs H Q => ∃ i j, xs = [.int i, .int j] ∧ Q (.int (if j < i then j else i)) H) (tCons t (tCons u tNil))) tInt (min i j) := fun σ Hv H w Q k =>
  h σ Hv H w _ fun v Hv1 H1 g1 r1 => h' σ Hv1 H1 (w.grow g1) _ fun u Hv2 H2 g2 r2 => by
    cases r1; cases r2
    refine ⟨i, j, rfl, k _ _ _ (g1.trans g2) (congrArg V.int ?_)⟩
    by_cases h : j < i
    · rw [if_pos h]; omega
    · rw [if_neg h]; omega
theorem sm_bits {t : TE} {i : Int} (h : Sm B Γ t tInt i) : Sm B Γ (tBits t) tInt (Builtin.Int.intBits i : Nat) := fun σ Hv H w Q k => h σ Hv H w _ fun v Hv1 H1 g1 r1 => by
  cases r1
  exact ⟨i, rfl, k _ _ _ g1 rfl⟩
theorem sm_sum {t : TE} {ns : List Int} (h : SmL B Γ t tInt ns) : Sm B Γ (tCB (rSum K) (tCons t tNil)) tInt ns.sum := fun σ Hv H w Q k =>
  h σ Hv H w _ fun a vs Hv1 H1 g1 e1 r1 => ⟨a, ns, rfl, by rw [← paired_int r1]; exact SqL.of e1, k _ _ _ g1 rfl⟩
theorem sm_all {t : TE} {bs : List Bool} (h : SmL B Γ t tBool bs) : Sm B Γ (tCB (rAll K) (tCons t tNil)) tBool (bs.all id) := fun σ Hv H w Q k =>
  h σ Hv H w _ fun a vs Hv1 H1 g1 e1 r1 => ⟨a, bs, rfl, by rw [← paired_bl r1]; exact SqL.of e1, k _ _ _ g1 rfl⟩
theorem sm_any {t : TE} {bs : List Bool} (h : SmL B Γ t tBool bs) : Sm B Γ (tCB (rAny K) (tCons t tNil)) tBool (bs.any id) := fun σ Hv H w Q k =>
  h σ Hv H w _ fun a vs Hv1 H1 g1 e1 r1 => ⟨a, bs, rfl, by rw [← paired_bl r1]; exact SqL.of e1, k _ _ _ g1 rfl⟩

/-! ### more statements -/
variable {D : Ends}
theorem g_ifAsg {c : TT} {te : TE} {u : TS} {i : Nat} {b : Bool} {x0 x : α} (hi : i < B.n) (hc : SmT B Γ c b) (m : get i Γ = some (.fz τ x0)) (he : b = true → Sm B Γ te τ x) (h : ∀ y, y = (bif b then x else x0) → G B u (put i (.fz τ y) Γ) D) :
    G B (tSeq (tIfS c (tSeq (tAsg te (gName i)) tNext) tNext) u) Γ D := fun σ Hv H w =>
  hc σ Hv H w _ fun Hv1 H1 g1 => by
    have w1 := w.grow g1
    cases b with
    | true => exact iteT (he rfl σ Hv1 H1 w1 _ fun v Hv2 H2 g2 r2 => h _ rfl _ Hv2 H2 ((w1.grow g2).put i hi r2))
    | false =>
      obtain ⟨v, e, r⟩ := w1.ent i _ (get_mem m)
      have w2 := w1.put i hi r
      have : σ.set i (some v) = σ := by
        apply List.ext_getElem?
        intro j
        rw [getElem?_setN]
        by_cases hj : i = j
        · subst hj
          rw [if_pos rfl, if_pos (by rw [w.len]; exact hi), e]
        · rw [if_neg hj]
      rw [this] at w2
      exact iteF (h _ rfl σ Hv1 H1 w2)
theorem g_ifAsg2 {c : TT} {te te' : TE} {u : TS} {i : Nat} {b : Bool} {x x' : α} (hi : i < B.n) (hc : SmT B Γ c b) (he : b = true → Sm B Γ te τ x) (he' : b = false → Sm B Γ te' τ x') (h : ∀ y, y = (bif b then x else x') → G B u (put i (.fz τ y) Γ) D) :
    G B (tSeq (tIfS c (tSeq (tAsg te (gName i)) tNext) (tSeq (tAsg te' (gName i)) tNext)) u) Γ D := fun σ Hv H w =>
  hc σ Hv H w _ fun Hv1 H1 g1 => by
    have w1 := w.grow g1
    cases b with
    | true => exact iteT (he rfl σ Hv1 H1 w1 _ fun v Hv2 H2 g2 r2 => h _ rfl _ Hv2 H2 ((w1.grow g2).put i hi r2))
    | false => exact iteF (he' rfl σ Hv1 H1 w1 _ fun v Hv2 H2 g2 r2 => h _ rfl _ Hv2 H2 ((w1.grow g2).put i hi r2))
theorem g_ifApp {c : TT} {te : TE} {u : TS} {i : Nat} {b : Bool} {xs : List α} (hc : SmT B Γ c b) (m : get i Γ = some (.cl τ xs)) (he : b = true → Sm B Γ te τ x) (hl : xs.length < 1000) (h : ∀ ys, ys = (bif b then xs ++ [x] else xs) → G B u (put i (.cl τ ys) Γ) D) :
    G B (tSeq (tIfS c (tSeq (tDrop (tBM K "list" rAppend (tVar i) (tCons te tNil))) tNext) tNext) u) Γ D := by
  refine g_if hc (fun e => ?_) fun e => ?_
  · refine g_assoc (g_append m (he e) hl fun ys hy => g_next (h ys ?_))
    rw [e]
    exact hy
  · refine g_next fun σ Hv H w => h xs (by rw [e]; rfl) σ Hv H (w.sub fun p m' => ?_)
    rcases put_mem m' with ⟨h1, h2⟩ | ⟨_, h2⟩
    · obtain ⟨i', e'⟩ := p
      cases h1
      cases h2
      exact get_mem m
    · exact h2
end
end VC

set_option Elab.async false
set_option maxRecDepth 100000
set_option maxHeartbeats 4000000
namespace VC
open PySem PySem.Spec L2
section
variable {B : Bs} {Γ : Cxt} {γ : Type} {φ : Ty γ} {H : Hp} {vs : List V} {Q : VK} {E : XK} {K : PySem.W.Frag}
def spF0   (pre : Prop) (φ : Ty γ) (f : γ) : Sp := fun vs H Q _ => ∃ Hv, Same Hv H ∧ Reps Hv vs [] ∧ pre ∧ ∀ v Hv' H', Grow Hv H Hv' H' → φ.rep Hv' v (f) → Q v H'
theorem spF0_len   {pre : Prop} {f : γ} (h : spF0 pre φ f vs H Q E) : vs.length = 0 := by
  obtain ⟨_, _, r, _⟩ := h
  exact r.len
theorem spF0_body   {pre : Prop} {f : γ} {N : List Str} {t : TS} (hl : 0 ≤ N.length) (h : spF0 pre φ f vs H Q E) (hb : ∀ B0 : Bs, B0.n = N.length → pre → RtF B0 φ (f) Q → G B0 t [] { nx := fun _ H' => Q .non H', rt := Q }) : t { nx := fun _ H' => Q .non H', rt := Q } (L2.start N vs) H := by
  obtain ⟨Hv, vis, rs, p, k⟩ := h
  exact hb ⟨H, Hv, fun _ => False, N.length⟩ rfl  p ⟨fun _ z => z, k⟩ _ _ _ (wd_start vis rs hl)
theorem sm_call0   {pre : Prop} {f : γ}  {t : TA} (ha : SmA B Γ t []) (hp : pre) : Sm B Γ (tCall (spF0 pre φ f) [] E t) φ (f) := fun σ Hv H w Q k =>
  ha σ Hv H w _ fun us Hv1 H1 g1 rs => by
    show spF0 pre φ f (us ++ []) H1 Q E
    rw [List.append_nil]
    exact ⟨Hv1, g1.vis, rs, hp, fun v Hv2 H2 g2 r2 => k _ _ _ (g1.trans g2) r2⟩
def spO0   (pre : Prop) (φ : Ty γ) (f : List γ) : Sp := fun vs H Q _ => ∃ Hv, Same Hv H ∧ Reps Hv vs [] ∧ pre ∧ ∀ l us Hv' H', Grow Hv H Hv' H' → H l = none → H' l = some (.lst us) → Hv' l = none → Paired (φ.rep Hv') us (f) → Q (.ref l) H'
theorem spO0_len   {pre : Prop} {f : List γ} (h : spO0 pre φ f vs H Q E) : vs.length = 0 := by
  obtain ⟨_, _, r, _⟩ := h
  exact r.len
theorem spO0_body   {pre : Prop} {f : List γ} {N : List Str} {t : TS} (hl : 0 ≤ N.length) (h : spO0 pre φ f vs H Q E) (hb : ∀ B0 : Bs, B0.n = N.length → pre → RtO B0 φ (f) Q → G B0 t [] { nx := fun _ H' => Q .non H', rt := Q }) : t { nx := fun _ H' => Q .non H', rt := Q } (L2.start N vs) H := by
  obtain ⟨Hv, vis, rs, p, k⟩ := h
  exact hb ⟨H, Hv, fun _ => False, N.length⟩ rfl  p ⟨fun _ z => z, k⟩ _ _ _ (wd_start vis rs hl)
theorem smo_call0   {pre : Prop} {f : List γ}  {t : TA} (ha : SmA B Γ t []) (hp : pre) : SmO B Γ (tCall (spO0 pre φ f) [] E t) φ (f) := fun σ Hv H w Q k =>
  ha σ Hv H w _ fun us Hv1 H1 g1 rs => by
    show spO0 pre φ f (us ++ []) H1 Q E
    rw [List.append_nil]
    exact ⟨Hv1, g1.vis, rs, hp, fun l us Hv2 H2 g2 e0 e1 e2 r2 => k _ _ _ _ (g1.trans g2) (Same.free g1.s e0) e1 e2 r2⟩
def spF1 {α1 : Type} (τ1 : Ty α1) (pre : α1 → Prop) (φ : Ty γ) (f : α1 → γ) : Sp := fun vs H Q _ => ∃ (x1 : α1), ∃ Hv, Same Hv H ∧ Reps Hv vs [⟨τ1, x1⟩] ∧ pre x1 ∧ ∀ v Hv' H', Grow Hv H Hv' H' → φ.rep Hv' v (f x1) → Q v H'
theorem spF1_len {α1 : Type} {τ1 : Ty α1} {pre : α1 → Prop} {f : α1 → γ} (h : spF1 τ1 pre φ f vs H Q E) : vs.length = 1 := by
  obtain ⟨_, _, _, r, _⟩ := h
  exact r.len
theorem spF1_body {α1 : Type} {τ1 : Ty α1} {pre : α1 → Prop} {f : α1 → γ} {N : List Str} {t : TS} (hl : 1 ≤ N.length) (h : spF1 τ1 pre φ f vs H Q E) (hb : ∀ B0 : Bs, B0.n = N.length → ∀ (x1 : α1), pre x1 → RtF B0 φ (f x1) Q → G B0 t [(0, .fz τ1 x1)] { nx := fun _ H' => Q .non H', rt := Q }) : t { nx := fun _ H' => Q .non H', rt := Q } (L2.start N vs) H := by
  obtain ⟨x1, Hv, vis, rs, p, k⟩ := h
  exact hb ⟨H, Hv, fun _ => False, N.length⟩ rfl x1 p ⟨fun _ z => z, k⟩ _ _ _ (wd_start vis rs hl)
theorem sm_call1 {α1 : Type} {τ1 : Ty α1} {pre : α1 → Prop} {f : α1 → γ} {x1 : α1} {t : TA} (ha : SmA B Γ t [⟨τ1, x1⟩]) (hp : pre x1) : Sm B Γ (tCall (spF1 τ1 pre φ f) [] E t) φ (f x1) := fun σ Hv H w Q k =>
  ha σ Hv H w _ fun us Hv1 H1 g1 rs => by
    show spF1 τ1 pre φ f (us ++ []) H1 Q E
    rw [List.append_nil]
    exact ⟨x1, Hv1, g1.vis, rs, hp, fun v Hv2 H2 g2 r2 => k _ _ _ (g1.trans g2) r2⟩
theorem sm_meth1 {α1 : Type} {C : Addr} {sch : α1 → List (Str × As)}  {pre : α1 → Prop} {f : α1 → γ} {m : Str} {x1 : α1} {ta : TE} {t : TA} (h : Sm B Γ ta (tObj C sch) x1) (ns : List Str) (hm : ixOf ns m = none) (hns : (sch x1).map (·.1) = ns) (ha : SmA B Γ t []) (hp : pre x1) : Sm B Γ (tMeth C m (spF1 (tObj C sch) pre φ f) [] E ta t) φ (f x1) := fun σ Hv H w Q k =>
  h σ Hv H w _ fun v Hv1 H1 g1 rv => by
    have rv' := rv
    obtain ⟨a, dx, fs, ev, h1, r1⟩ := rv
    refine ⟨a, dx, fs, ev, g1.vis _ _ h1, r1.none (by rw [hns]; exact hm), ha σ Hv1 H1 (w.grow g1) _ fun us Hv2 H2 g2 rs => ?_⟩
    show spF1 (tObj C sch) pre φ f (v :: (us ++ [])) H2 Q E
    rw [List.append_nil]
    exact ⟨x1, Hv2, g2.vis, .cons ((tObj C sch).mono g2.v rv') rs, hp, fun v Hv3 H3 g3 r3 => k _ _ _ ((g1.trans g2).trans g3) r3⟩
def spO1 {α1 : Type} (τ1 : Ty α1) (pre : α1 → Prop) (φ : Ty γ) (f : α1 → List γ) : Sp := fun vs H Q _ => ∃ (x1 : α1), ∃ Hv, Same Hv H ∧ Reps Hv vs [⟨τ1, x1⟩] ∧ pre x1 ∧ ∀ l us Hv' H', Grow Hv H Hv' H' → H l = none → H' l = some (.lst us) → Hv' l = none → Paired (φ.rep Hv') us (f x1) → Q (.ref l) H'
theorem spO1_len {α1 : Type} {τ1 : Ty α1} {pre : α1 → Prop} {f : α1 → List γ} (h : spO1 τ1 pre φ f vs H Q E) : vs.length = 1 := by
  obtain ⟨_, _, _, r, _⟩ := h
  exact r.len
theorem spO1_body {α1 : Type} {τ1 : Ty α1} {pre : α1 → Prop} {f : α1 → List γ} {N : List Str} {t : TS} (hl : 1 ≤ N.length) (h : spO1 τ1 pre φ f vs H Q E) (hb : ∀ B0 : Bs, B0.n = N.length → ∀ (x1 : α1), pre x1 → RtO B0 φ (f x1) Q → G B0 t [(0, .fz τ1 x1)] { nx := fun _ H' => Q .non H', rt := Q }) : t { nx := fun _ H' => Q .non H', rt := Q } (L2.start N vs) H := by
  obtain ⟨x1, Hv, vis, rs, p, k⟩ := h
  exact hb ⟨H, Hv, fun _ => False, N.length⟩ rfl x1 p ⟨fun _ z => z, k⟩ _ _ _ (wd_start vis rs hl)
theorem smo_call1 {α1 : Type} {τ1 : Ty α1} {pre : α1 → Prop} {f : α1 → List γ} {x1 : α1} {t : TA} (ha : SmA B Γ t [⟨τ1, x1⟩]) (hp : pre x1) : SmO B Γ (tCall (spO1 τ1 pre φ f) [] E t) φ (f x1) := fun σ Hv H w Q k =>
  ha σ Hv H w _ fun us Hv1 H1 g1 rs => by
    show spO1 τ1 pre φ f (us ++ []) H1 Q E
    rw [List.append_nil]
    exact ⟨x1, Hv1, g1.vis, rs, hp, fun l us Hv2 H2 g2 e0 e1 e2 r2 => k _ _ _ _ (g1.trans g2) (Same.free g1.s e0) e1 e2 r2⟩
theorem smo_meth1 {α1 : Type} {C : Addr} {sch : α1 → List (Str × As)}  {pre : α1 → Prop} {f : α1 → List γ} {m : Str} {x1 : α1} {ta : TE} {t : TA} (h : Sm B Γ ta (tObj C sch) x1) (ns : List Str) (hm : ixOf ns m = none) (hns : (sch x1).map (·.1) = ns) (ha : SmA B Γ t []) (hp : pre x1) : SmO B Γ (tMeth C m (spO1 (tObj C sch) pre φ f) [] E ta t) φ (f x1) := fun σ Hv H w Q k =>
  h σ Hv H w _ fun v Hv1 H1 g1 rv => by
    have rv' := rv
    obtain ⟨a, dx, fs, ev, h1, r1⟩ := rv
    refine ⟨a, dx, fs, ev, g1.vis _ _ h1, r1.none (by rw [hns]; exact hm), ha σ Hv1 H1 (w.grow g1) _ fun us Hv2 H2 g2 rs => ?_⟩
    show spO1 (tObj C sch) pre φ f (v :: (us ++ [])) H2 Q E
    rw [List.append_nil]
    exact ⟨x1, Hv2, g2.vis, .cons ((tObj C sch).mono g2.v rv') rs, hp, fun l us Hv3 H3 g3 e0 e1 e2 r3 => k _ _ _ _ ((g1.trans g2).trans g3) (Same.free (g1.trans g2).s e0) e1 e2 r3⟩
def spF2 {α1 : Type} {α2 : Type} (τ1 : Ty α1) (τ2 : Ty α2) (pre : α1 → α2 → Prop) (φ : Ty γ) (f : α1 → α2 → γ) : Sp := fun vs H Q _ => ∃ (x1 : α1) (x2 : α2), ∃ Hv, Same Hv H ∧ Reps Hv vs [⟨τ1, x1⟩, ⟨τ2, x2⟩] ∧ pre x1 x2 ∧ ∀ v Hv' H', Grow Hv H Hv' H' → φ.rep Hv' v (f x1 x2) → Q v H'
theorem spF2_len {α1 : Type} {α2 : Type} {τ1 : Ty α1} {τ2 : Ty α2} {pre : α1 → α2 → Prop} {f : α1 → α2 → γ} (h : spF2 τ1 τ2 pre φ f vs H Q E) : vs.length = 2 := by
  obtain ⟨_, _, _, _, r, _⟩ := h
  exact r.len
theorem spF2_body {α1 : Type} {α2 : Type} {τ1 : Ty α1} {τ2 : Ty α2} {pre : α1 → α2 → Prop} {f : α1 → α2 → γ} {N : List Str} {t : TS} (hl : 2 ≤ N.length) (h : spF2 τ1 τ2 pre φ f vs H Q E) (hb : ∀ B0 : Bs, B0.n = N.length → ∀ (x1 : α1) (x2 : α2), pre x1 x2 → RtF B0 φ (f x1 x2) Q → G B0 t [(0, .fz τ1 x1), (1, .fz τ2 x2)] { nx := fun _ H' => Q .non H', rt := Q }) : t { nx := fun _ H' => Q .non H', rt := Q } (L2.start N vs) H := by
  obtain ⟨x1, x2, Hv, vis, rs, p, k⟩ := h
  exact hb ⟨H, Hv, fun _ => False, N.length⟩ rfl x1 x2 p ⟨fun _ z => z, k⟩ _ _ _ (wd_start vis rs hl)
theorem sm_call2 {α1 : Type} {α2 : Type} {τ1 : Ty α1} {τ2 : Ty α2} {pre : α1 → α2 → Prop} {f : α1 → α2 → γ} {x1 : α1} {x2 : α2} {t : TA} (ha : SmA B Γ t [⟨τ1, x1⟩, ⟨τ2, x2⟩]) (hp : pre x1 x2) : Sm B Γ (tCall (spF2 τ1 τ2 pre φ f) [] E t) φ (f x1 x2) := fun σ Hv H w Q k =>
  ha σ Hv H w _ fun us Hv1 H1 g1 rs => by
    show spF2 τ1 τ2 pre φ f (us ++ []) H1 Q E
    rw [List.append_nil]
    exact ⟨x1, x2, Hv1, g1.vis, rs, hp, fun v Hv2 H2 g2 r2 => k _ _ _ (g1.trans g2) r2⟩
theorem sm_meth2 {α1 : Type} {α2 : Type} {C : Addr} {sch : α1 → List (Str × As)} {τ2 : Ty α2} {pre : α1 → α2 → Prop} {f : α1 → α2 → γ} {m : Str} {x1 : α1} {x2 : α2} {ta : TE} {t : TA} (h : Sm B Γ ta (tObj C sch) x1) (ns : List Str) (hm : ixOf ns m = none) (hns : (sch x1).map (·.1) = ns) (ha : SmA B Γ t [⟨τ2, x2⟩]) (hp : pre x1 x2) : Sm B Γ (tMeth C m (spF2 (tObj C sch) τ2 pre φ f) [] E ta t) φ (f x1 x2) := fun σ Hv H w Q k =>
  h σ Hv H w _ fun v Hv1 H1 g1 rv => by
    have rv' := rv
    obtain ⟨a, dx, fs, ev, h1, r1⟩ := rv
    refine ⟨a, dx, fs, ev, g1.vis _ _ h1, r1.none (by rw [hns]; exact hm), ha σ Hv1 H1 (w.grow g1) _ fun us Hv2 H2 g2 rs => ?_⟩
    show spF2 (tObj C sch) τ2 pre φ f (v :: (us ++ [])) H2 Q E
    rw [List.append_nil]
    exact ⟨x1, x2, Hv2, g2.vis, .cons ((tObj C sch).mono g2.v rv') rs, hp, fun v Hv3 H3 g3 r3 => k _ _ _ ((g1.trans g2).trans g3) r3⟩
def spO2 {α1 : Type} {α2 : Type} (τ1 : Ty α1) (τ2 : Ty α2) (pre : α1 → α2 → Prop) (φ : Ty γ) (f : α1 → α2 → List γ) : Sp := fun vs H Q _ => ∃ (x1 : α1) (x2 : α2), ∃ Hv, Same Hv H ∧ Reps Hv vs [⟨τ1, x1⟩, ⟨τ2, x2⟩] ∧ pre x1 x2 ∧ ∀ l us Hv' H', Grow Hv H Hv' H' → H l = none → H' l = some (.lst us) → Hv' l = none → Paired (φ.rep Hv') us (f x1 x2) → Q (.ref l) H'
theorem spO2_len {α1 : Type} {α2 : Type} {τ1 : Ty α1} {τ2 : Ty α2} {pre : α1 → α2 → Prop} {f : α1 → α2 → List γ} (h : spO2 τ1 τ2 pre φ f vs H Q E) : vs.length = 2 := by
  obtain ⟨_, _, _, _, r, _⟩ := h
  exact r.len
theorem spO2_body {α1 : Type} {α2 : Type} {τ1 : Ty α1} {τ2 : Ty α2} {pre : α1 → α2 → Prop} {f : α1 → α2 → List γ} {N : List Str} {t : TS} (hl : 2 ≤ N.length) (h : spO2 τ1 τ2 pre φ f vs H Q E) (hb : ∀ B0 : Bs, B0.n = N.length → ∀ (x1 : α1) (x2 : α2), pre x1 x2 → RtO B0 φ (f x1 x2) Q → G B0 t [(0, .fz τ1 x1), (1, .fz τ2 x2)] { nx := fun _ H' => Q .non H', rt := Q }) : t { nx := fun _ H' => Q .non H', rt := Q } (L2.start N vs) H := by
  obtain ⟨x1, x2, Hv, vis, rs, p, k⟩ := h
  exact hb ⟨H, Hv, fun _ => False, N.length⟩ rfl x1 x2 p ⟨fun _ z => z, k⟩ _ _ _ (wd_start vis rs hl)
theorem smo_call2 {α1 : Type} {α2 : Type} {τ1 : Ty α1} {τ2 : Ty α2} {pre : α1 → α2 → Prop} {f : α1 → α2 → List γ} {x1 : α1} {x2 : α2} {t : TA} (ha : SmA B Γ t [⟨τ1, x1⟩, ⟨τ2, x2⟩]) (hp : pre x1 x2) : SmO B Γ (tCall (spO2 τ1 τ2 pre φ f) [] E t) φ (f x1 x2) := fun σ Hv H w Q k =>
  ha σ Hv H w _ fun us Hv1 H1 g1 rs => by
    show spO2 τ1 τ2 pre φ f (us ++ []) H1 Q E
    rw [List.append_nil]
    exact ⟨x1, x2, Hv1, g1.vis, rs, hp, fun l us Hv2 H2 g2 e0 e1 e2 r2 => k _ _ _ _ (g1.trans g2) (Same.free g1.s e0) e1 e2 r2⟩
theorem smo_meth2 {α1 : Type} {α2 : Type} {C : Addr} {sch : α1 → List (Str × As)} {τ2 : Ty α2} {pre : α1 → α2 → Prop} {f : α1 → α2 → List γ} {m : Str} {x1 : α1} {x2 : α2} {ta : TE} {t : TA} (h : Sm B Γ ta (tObj C sch) x1) (ns : List Str) (hm : ixOf ns m = none) (hns : (sch x1).map (·.1) = ns) (ha : SmA B Γ t [⟨τ2, x2⟩]) (hp : pre x1 x2) : SmO B Γ (tMeth C m (spO2 (tObj C sch) τ2 pre φ f) [] E ta t) φ (f x1 x2) := fun σ Hv H w Q k =>
  h σ Hv H w _ fun v Hv1 H1 g1 rv => by
    have rv' := rv
    obtain ⟨a, dx, fs, ev, h1, r1⟩ := rv
    refine ⟨a, dx, fs, ev, g1.vis _ _ h1, r1.none (by rw [hns]; exact hm), ha σ Hv1 H1 (w.grow g1) _ fun us Hv2 H2 g2 rs => ?_⟩
    show spO2 (tObj C sch) τ2 pre φ f (v :: (us ++ [])) H2 Q E
    rw [List.append_nil]
    exact ⟨x1, x2, Hv2, g2.vis, .cons ((tObj C sch).mono g2.v rv') rs, hp, fun l us Hv3 H3 g3 e0 e1 e2 r3 => k _ _ _ _ ((g1.trans g2).trans g3) (Same.free (g1.trans g2).s e0) e1 e2 r3⟩
def spF3 {α1 : Type} {α2 : Type} {α3 : Type} (τ1 : Ty α1) (τ2 : Ty α2) (τ3 : Ty α3) (pre : α1 → α2 → α3 → Prop) (φ : Ty γ) (f : α1 → α2 → α3 → γ) : Sp := fun vs H Q _ => ∃ (x1 : α1) (x2 : α2) (x3 : α3), ∃ Hv, Same Hv H ∧ Reps Hv vs [⟨τ1, x1⟩, ⟨τ2, x2⟩, ⟨τ3, x3⟩] ∧ pre x1 x2 x3 ∧ ∀ v Hv' H', Grow Hv H Hv' H' → φ.rep Hv' v (f x1 x2 x3) → Q v H'
theorem spF3_len {α1 : Type} {α2 : Type} {α3 : Type} {τ1 : Ty α1} {τ2 : Ty α2} {τ3 : Ty α3} {pre : α1 → α2 → α3 → Prop} {f : α1 → α2 → α3 → γ} (h : spF3 τ1 τ2 τ3 pre φ f vs H Q E) : vs.length = 3 := by
  obtain ⟨_, _, _, _, _, r, _⟩ := h
  exact r.len
theorem spF3_body {α1 : Type} {α2 : Type} {α3 : Type} {τ1 : Ty α1} {τ2 : Ty α2} {τ3 : Ty α3} {pre : α1 → α2 → α3 → Prop} {f : α1 → α2 → α3 → γ} {N : List Str} {t : TS} (hl : 3 ≤ N.length) (h : spF3 τ1 τ2 τ3 pre φ f vs H Q E) (hb : ∀ B0 : Bs, B0.n = N.length → ∀ (x1 : α1) (x2 : α2) (x3 : α3), pre x1 x2 x3 → RtF B0 φ (f x1 x2 x3) Q → G B0 t [(0, .fz τ1 x1), (1, .fz τ2 x2), (2, .fz τ3 x3)] { nx := fun _ H' => Q .non H', rt := Q }) : t { nx := fun _ H' => Q .non H', rt := Q } (L2.start N vs) H := by
  obtain ⟨x1, x2, x3, Hv, vis, rs, p, k⟩ := h
  exact hb ⟨H, Hv, fun _ => False, N.length⟩ rfl x1 x2 x3 p ⟨fun _ z => z, k⟩ _ _ _ (wd_start vis rs hl)
theorem sm_call3 {α1 : Type} {α2 : Type} {α3 : Type} {τ1 : Ty α1} {τ2 : Ty α2} {τ3 : Ty α3} {pre : α1 → α2 → α3 → Prop} {f : α1 → α2 → α3 → γ} {x1 : α1} {x2 : α2} {x3 : α3} {t : TA} (ha : SmA B Γ t [⟨τ1, x1⟩, ⟨τ2, x2⟩, ⟨τ3, x3⟩]) (hp : pre x1 x2 x3) : Sm B Γ (tCall (spF3 τ1 τ2 τ3 pre φ f) [] E t) φ (f x1 x2 x3) := fun σ Hv H w Q k =>
  ha σ Hv H w _ fun us Hv1 H1 g1 rs => by
    show spF3 τ1 τ2 τ3 pre φ f (us ++ []) H1 Q E
    rw [List.append_nil]
    exact ⟨x1, x2, x3, Hv1, g1.vis, rs, hp, fun v Hv2 H2 g2 r2 => k _ _ _ (g1.trans g2) r2⟩
theorem sm_meth3 {α1 : Type} {α2 : Type} {α3 : Type} {C : Addr} {sch : α1 → List (Str × As)} {τ2 : Ty α2} {τ3 : Ty α3} {pre : α1 → α2 → α3 → Prop} {f : α1 → α2 → α3 → γ} {m : Str} {x1 : α1} {x2 : α2} {x3 : α3} {ta : TE} {t : TA} (h : Sm B Γ ta (tObj C sch) x1) (ns : List Str) (hm : ixOf ns m = none) (hns : (sch x1).map (·.1) = ns) (ha : SmA B Γ t [⟨τ2, x2⟩, ⟨τ3, x3⟩]) (hp : pre x1 x2 x3) : Sm B Γ (tMeth C m (spF3 (tObj C sch) τ2 τ3 pre φ f) [] E ta t) φ (f x1 x2 x3) := fun σ Hv H w Q k =>
  h σ Hv H w _ fun v Hv1 H1 g1 rv => by
    have rv' := rv
    obtain ⟨a, dx, fs, ev, h1, r1⟩ := rv
    refine ⟨a, dx, fs, ev, g1.vis _ _ h1, r1.none (by rw [hns]; exact hm), ha σ Hv1 H1 (w.grow g1) _ fun us Hv2 H2 g2 rs => ?_⟩
    show spF3 (tObj C sch) τ2 τ3 pre φ f (v :: (us ++ [])) H2 Q E
    rw [List.append_nil]
    exact ⟨x1, x2, x3, Hv2, g2.vis, .cons ((tObj C sch).mono g2.v rv') rs, hp, fun v Hv3 H3 g3 r3 => k _ _ _ ((g1.trans g2).trans g3) r3⟩
def spO3 {α1 : Type} {α2 : Type} {α3 : Type} (τ1 : Ty α1) (τ2 : Ty α2) (τ3 : Ty α3) (pre : α1 → α2 → α3 → Prop) (φ : Ty γ) (f : α1 → α2 → α3 → List γ) : Sp := fun vs H Q _ => ∃ (x1 : α1) (x2 : α2) (x3 : α3), ∃ Hv, Same Hv H ∧ Reps Hv vs [⟨τ1, x1⟩, ⟨τ2, x2⟩, ⟨τ3, x3⟩] ∧ pre x1 x2 x3 ∧ ∀ l us Hv' H', Grow Hv H Hv' H' → H l = none → H' l = some (.lst us) → Hv' l = none → Paired (φ.rep Hv') us (f x1 x2 x3) → Q (.ref l) H'
theorem spO3_len {α1 : Type} {α2 : Type} {α3 : Type} {τ1 : Ty α1} {τ2 : Ty α2} {τ3 : Ty α3} {pre : α1 → α2 → α3 → Prop} {f : α1 → α2 → α3 → List γ} (h : spO3 τ1 τ2 τ3 pre φ f vs H Q E) : vs.length = 3 := by
  obtain ⟨_, _, _, _, _, r, _⟩ := h
  exact r.len
theorem spO3_body {α1 : Type} {α2 : Type} {α3 : Type} {τ1 : Ty α1} {τ2 : Ty α2} {τ3 : Ty α3} {pre : α1 → α2 → α3 → Prop} {f : α1 → α2 → α3 → List γ} {N : List Str} {t : TS} (hl : 3 ≤ N.length) (h : spO3 τ1 τ2 τ3 pre φ f vs H Q E) (hb : ∀ B0 : Bs, B0.n = N.length → ∀ (x1 : α1) (x2 : α2) (x3 : α3), pre x1 x2 x3 → RtO B0 φ (f x1 x2 x3) Q → G B0 t [(0, .fz τ1 x1), (1, .fz τ2 x2), (2, .fz τ3 x3)] { nx := fun _ H' => Q .non H', rt := Q }) : t { nx := fun _ H' => Q .non H', rt := Q } (L2.start N vs) H := by
  obtain ⟨x1, x2, x3, Hv, vis, rs, p, k⟩ := h
  exact hb ⟨H, Hv, fun _ => False, N.length⟩ rfl x1 x2 x3 p ⟨fun _ z => z, k⟩ _ _ _ (wd_start vis rs hl)
theorem smo_call3 {α1 : Type} {α2 : Type} {α3 : Type} {τ1 : Ty α1} {τ2 : Ty α2} {τ3 : Ty α3} {pre : α1 → α2 → α3 → Prop} {f : α1 → α2 → α3 → List γ} {x1 : α1} {x2 : α2} {x3 : α3} {t : TA} (ha : SmA B Γ t [⟨τ1, x1⟩, ⟨τ2, x2⟩, ⟨τ3, x3⟩]) (hp : pre x1 x2 x3) : SmO B Γ (tCall (spO3 τ1 τ2 τ3 pre φ f) [] E t) φ (f x1 x2 x3) := fun σ Hv H w Q k =>
  ha σ Hv H w _ fun us Hv1 H1 g1 rs => by
    show spO3 τ1 τ2 τ3 pre φ f (us ++ []) H1 Q E
    rw [List.append_nil]
    exact ⟨x1, x2, x3, Hv1, g1.vis, rs, hp, fun l us Hv2 H2 g2 e0 e1 e2 r2 => k _ _ _ _ (g1.trans g2) (Same.free g1.s e0) e1 e2 r2⟩
theorem smo_meth3 {α1 : Type} {α2 : Type} {α3 : Type} {C : Addr} {sch : α1 → List (Str × As)} {τ2 : Ty α2} {τ3 : Ty α3} {pre : α1 → α2 → α3 → Prop} {f : α1 → α2 → α3 → List γ} {m : Str} {x1 : α1} {x2 : α2} {x3 : α3} {ta : TE} {t : TA} (h : Sm B Γ ta (tObj C sch) x1) (ns : List Str) (hm : ixOf ns m = none) (hns : (sch x1).map (·.1) = ns) (ha : SmA B Γ t [⟨τ2, x2⟩, ⟨τ3, x3⟩]) (hp : pre x1 x2 x3) : SmO B Γ (tMeth C m (spO3 (tObj C sch) τ2 τ3 pre φ f) [] E ta t) φ (f x1 x2 x3) := fun σ Hv H w Q k =>
  h σ Hv H w _ fun v Hv1 H1 g1 rv => by
    have rv' := rv
    obtain ⟨a, dx, fs, ev, h1, r1⟩ := rv
    refine ⟨a, dx, fs, ev, g1.vis _ _ h1, r1.none (by rw [hns]; exact hm), ha σ Hv1 H1 (w.grow g1) _ fun us Hv2 H2 g2 rs => ?_⟩
    show spO3 (tObj C sch) τ2 τ3 pre φ f (v :: (us ++ [])) H2 Q E
    rw [List.append_nil]
    exact ⟨x1, x2, x3, Hv2, g2.vis, .cons ((tObj C sch).mono g2.v rv') rs, hp, fun l us Hv3 H3 g3 e0 e1 e2 r3 => k _ _ _ _ ((g1.trans g2).trans g3) (Same.free (g1.trans g2).s e0) e1 e2 r3⟩
def spF4 {α1 : Type} {α2 : Type} {α3 : Type} {α4 : Type} (τ1 : Ty α1) (τ2 : Ty α2) (τ3 : Ty α3) (τ4 : Ty α4) (pre : α1 → α2 → α3 → α4 → Prop) (φ : Ty γ) (f : α1 → α2 → α3 → α4 → γ) : Sp := fun vs H Q _ => ∃ (x1 : α1) (x2 : α2) (x3 : α3) (x4 : α4), ∃ Hv, Same Hv H ∧ Reps Hv vs [⟨τ1, x1⟩, ⟨τ2, x2⟩, ⟨τ3, x3⟩, ⟨τ4, x4⟩] ∧ pre x1 x2 x3 x4 ∧ ∀ v Hv' H', Grow Hv H Hv' H' → φ.rep Hv' v (f x1 x2 x3 x4) → Q v H'
theorem spF4_len {α1 : Type} {α2 : Type} {α3 : Type} {α4 : Type} {τ1 : Ty α1} {τ2 : Ty α2} {τ3 : Ty α3} {τ4 : Ty α4} {pre : α1 → α2 → α3 → α4 → Prop} {f : α1 → α2 → α3 → α4 → γ} (h : spF4 τ1 τ2 τ3 τ4 pre φ f vs H Q E) : vs.length = 4 := by
  obtain ⟨_, _, _, _, _, _, r, _⟩ := h
  exact r.len
theorem spF4_body {α1 : Type} {α2 : Type} {α3 : Type} {α4 : Type} {τ1 : Ty α1} {τ2 : Ty α2} {τ3 : Ty α3} {τ4 : Ty α4} {pre : α1 → α2 → α3 → α4 → Prop} {f : α1 → α2 → α3 → α4 → γ} {N : List Str} {t : TS} (hl : 4 ≤ N.length) (h : spF4 τ1 τ2 τ3 τ4 pre φ f vs H Q E) (hb : ∀ B0 : Bs, B0.n = N.length → ∀ (x1 : α1) (x2 : α2) (x3 : α3) (x4 : α4), pre x1 x2 x3 x4 → RtF B0 φ (f x1 x2 x3 x4) Q → G B0 t [(0, .fz τ1 x1), (1, .fz τ2 x2), (2, .fz τ3 x3), (3, .fz τ4 x4)] { nx := fun _ H' => Q .non H', rt := Q }) : t { nx := fun _ H' => Q .non H', rt := Q } (L2.start N vs) H := by
  obtain ⟨x1, x2, x3, x4, Hv, vis, rs, p, k⟩ := h
  exact hb ⟨H, Hv, fun _ => False, N.length⟩ rfl x1 x2 x3 x4 p ⟨fun _ z => z, k⟩ _ _ _ (wd_start vis rs hl)
theorem sm_call4 {α1 : Type} {α2 : Type} {α3 : Type} {α4 : Type} {τ1 : Ty α1} {τ2 : Ty α2} {τ3 : Ty α3} {τ4 : Ty α4} {pre : α1 → α2 → α3 → α4 → Prop} {f : α1 → α2 → α3 → α4 → γ} {x1 : α1} {x2 : α2} {x3 : α3} {x4 : α4} {t : TA} (ha : SmA B Γ t [⟨τ1, x1⟩, ⟨τ2, x2⟩, ⟨τ3, x3⟩, ⟨τ4, x4⟩]) (hp : pre x1 x2 x3 x4) : Sm B Γ (tCall (spF4 τ1 τ2 τ3 τ4 pre φ f) [] E t) φ (f x1 x2 x3 x4) := fun σ Hv H w Q k =>
  ha σ Hv H w _ fun us Hv1 H1 g1 rs => by
    show spF4 τ1 τ2 τ3 τ4 pre φ f (us ++ []) H1 Q E
    rw [List.append_nil]
    exact ⟨x1, x2, x3, x4, Hv1, g1.vis, rs, hp, fun v Hv2 H2 g2 r2 => k _ _ _ (g1.trans g2) r2⟩
theorem sm_meth4 {α1 : Type} {α2 : Type} {α3 : Type} {α4 : Type} {C : Addr} {sch : α1 → List (Str × As)} {τ2 : Ty α2} {τ3 : Ty α3} {τ4 : Ty α4} {pre : α1 → α2 → α3 → α4 → Prop} {f : α1 → α2 → α3 → α4 → γ} {m : Str} {x1 : α1} {x2 : α2} {x3 : α3} {x4 : α4} {ta : TE} {t : TA} (h : Sm B Γ ta (tObj C sch) x1) (ns : List Str) (hm : ixOf ns m = none) (hns : (sch x1).map (·.1) = ns) (ha : SmA B Γ t [⟨τ2, x2⟩, ⟨τ3, x3⟩, ⟨τ4, x4⟩]) (hp : pre x1 x2 x3 x4) : Sm B Γ (tMeth C m (spF4 (tObj C sch) τ2 τ3 τ4 pre φ f) [] E ta t) φ (f x1 x2 x3 x4) := fun σ Hv H w Q k =>
  h σ Hv H w _ fun v Hv1 H1 g1 rv => by
    have rv' := rv
    obtain ⟨a, dx, fs, ev, h1, r1⟩ := rv
    refine ⟨a, dx, fs, ev, g1.vis _ _ h1, r1.none (by rw [hns]; exact hm), ha σ Hv1 H1 (w.grow g1) _ fun us Hv2 H2 g2 rs => ?_⟩
    show spF4 (tObj C sch) τ2 τ3 τ4 pre φ f (v :: (us ++ [])) H2 Q E
    rw [List.append_nil]
    exact ⟨x1, x2, x3, x4, Hv2, g2.vis, .cons ((tObj C sch).mono g2.v rv') rs, hp, fun v Hv3 H3 g3 r3 => k _ _ _ ((g1.trans g2).trans g3) r3⟩
def spO4 {α1 : Type} {α2 : Type} {α3 : Type} {α4 : Type} (τ1 : Ty α1) (τ2 : Ty α2) (τ3 : Ty α3) (τ4 : Ty α4) (pre : α1 → α2 → α3 → α4 → Prop) (φ : Ty γ) (f : α1 → α2 → α3 → α4 → List γ) : Sp := fun vs H Q _ => ∃ (x1 : α1) (x2 : α2) (x3 : α3) (x4 : α4), ∃ Hv, Same Hv H ∧ Reps Hv vs [⟨τ1, x1⟩, ⟨τ2, x2⟩, ⟨τ3, x3⟩, ⟨τ4, x4⟩] ∧ pre x1 x2 x3 x4 ∧ ∀ l us Hv' H', Grow Hv H Hv' H' → H l = none → H' l = some (.lst us) → Hv' l = none → Paired (φ.rep Hv') us (f x1 x2 x3 x4) → Q (.ref l) H'
theorem spO4_len {α1 : Type} {α2 : Type} {α3 : Type} {α4 : Type} {τ1 : Ty α1} {τ2 : Ty α2} {τ3 : Ty α3} {τ4 : Ty α4} {pre : α1 → α2 → α3 → α4 → Prop} {f : α1 → α2 → α3 → α4 → List γ} (h : spO4 τ1 τ2 τ3 τ4 pre φ f vs H Q E) : vs.length = 4 := by
  obtain ⟨_, _, _, _, _, _, r, _⟩ := h
  exact r.len
theorem spO4_body {α1 : Type} {α2 : Type} {α3 : Type} {α4 : Type} {τ1 : Ty α1} {τ2 : Ty α2} {τ3 : Ty α3} {τ4 : Ty α4} {pre : α1 → α2 → α3 → α4 → Prop} {f : α1 → α2 → α3 → α4 → List γ} {N : List Str} {t : TS} (hl : 4 ≤ N.length) (h : spO4 τ1 τ2 τ3 τ4 pre φ f vs H Q E) (hb : ∀ B0 : Bs, B0.n = N.length → ∀ (x1 : α1) (x2 : α2) (x3 : α3) (x4 : α4), pre x1 x2 x3 x4 → RtO B0 φ (f x1 x2 x3 x4) Q → G B0 t [(0, .fz τ1 x1), (1, .fz τ2 x2), (2, .fz τ3 x3), (3, .fz τ4 x4)] { nx := fun _ H' => Q .non H', rt := Q }) : t { nx := fun _ H' => Q .non H', rt := Q } (L2.start N vs) H := by
  obtain ⟨x1, x2, x3, x4, Hv, vis, rs, p, k⟩ := h
  exact hb ⟨H, Hv, fun _ => False, N.length⟩ rfl x1 x2 x3 x4 p ⟨fun _ z => z, k⟩ _ _ _ (wd_start vis rs hl)
theorem smo_call4 {α1 : Type} {α2 : Type} {α3 : Type} {α4 : Type} {τ1 : Ty α1} {τ2 : Ty α2} {τ3 : Ty α3} {τ4 : Ty α4} {pre : α1 → α2 → α3 → α4 → Prop} {f : α1 → α2 → α3 → α4 → List γ} {x1 : α1} {x2 : α2} {x3 : α3} {x4 : α4} {t : TA} (ha : SmA B Γ t [⟨τ1, x1⟩, ⟨τ2, x2⟩, ⟨τ3, x3⟩, ⟨τ4, x4⟩]) (hp : pre x1 x2 x3 x4) : SmO B Γ (tCall (spO4 τ1 τ2 τ3 τ4 pre φ f) [] E t) φ (f x1 x2 x3 x4) := fun σ Hv H w Q k =>
  ha σ Hv H w _ fun us Hv1 H1 g1 rs => by
    show spO4 τ1 τ2 τ3 τ4 pre φ f (us ++ []) H1 Q E
    rw [List.append_nil]
    exact ⟨x1, x2, x3, x4, Hv1, g1.vis, rs, hp, fun l us Hv2 H2 g2 e0 e1 e2 r2 => k _ _ _ _ (g1.trans g2) (Same.free g1.s e0) e1 e2 r2⟩
theorem smo_meth4 {α1 : Type} {α2 : Type} {α3 : Type} {α4 : Type} {C : Addr} {sch : α1 → List (Str × As)} {τ2 : Ty α2} {τ3 : Ty α3} {τ4 : Ty α4} {pre : α1 → α2 → α3 → α4 → Prop} {f : α1 → α2 → α3 → α4 → List γ} {m : Str} {x1 : α1} {x2 : α2} {x3 : α3} {x4 : α4} {ta : TE} {t : TA} (h : Sm B Γ ta (tObj C sch) x1) (ns : List Str) (hm : ixOf ns m = none) (hns : (sch x1).map (·.1) = ns) (ha : SmA B Γ t [⟨τ2, x2⟩, ⟨τ3, x3⟩, ⟨τ4, x4⟩]) (hp : pre x1 x2 x3 x4) : SmO B Γ (tMeth C m (spO4 (tObj C sch) τ2 τ3 τ4 pre φ f) [] E ta t) φ (f x1 x2 x3 x4) := fun σ Hv H w Q k =>
  h σ Hv H w _ fun v Hv1 H1 g1 rv => by
    have rv' := rv
    obtain ⟨a, dx, fs, ev, h1, r1⟩ := rv
    refine ⟨a, dx, fs, ev, g1.vis _ _ h1, r1.none (by rw [hns]; exact hm), ha σ Hv1 H1 (w.grow g1) _ fun us Hv2 H2 g2 rs => ?_⟩
    show spO4 (tObj C sch) τ2 τ3 τ4 pre φ f (v :: (us ++ [])) H2 Q E
    rw [List.append_nil]
    exact ⟨x1, x2, x3, x4, Hv2, g2.vis, .cons ((tObj C sch).mono g2.v rv') rs, hp, fun l us Hv3 H3 g3 e0 e1 e2 r3 => k _ _ _ _ ((g1.trans g2).trans g3) (Same.free (g1.trans g2).s e0) e1 e2 r3⟩
def spF5 {α1 : Type} {α2 : Type} {α3 : Type} {α4 : Type} {α5 : Type} (τ1 : Ty α1) (τ2 : Ty α2) (τ3 : Ty α3) (τ4 : Ty α4) (τ5 : Ty α5) (pre : α1 → α2 → α3 → α4 → α5 → Prop) (φ : Ty γ) (f : α1 → α2 → α3 → α4 → α5 → γ) : Sp := fun vs H Q _ => ∃ (x1 : α1) (x2 : α2) (x3 : α3) (x4 : α4) (x5 : α5), ∃ Hv, Same Hv H ∧ Reps Hv vs [⟨τ1, x1⟩, ⟨τ2, x2⟩, ⟨τ3, x3⟩, ⟨τ4, x4⟩, ⟨τ5, x5⟩] ∧ pre x1 x2 x3 x4 x5 ∧ ∀ v Hv' H', Grow Hv H Hv' H' → φ.rep Hv' v (f x1 x2 x3 x4 x5) → Q v H'
theorem spF5_len {α1 : Type} {α2 : Type} {α3 : Type} {α4 : Type} {α5 : Type} {τ1 : Ty α1} {τ2 : Ty α2} {τ3 : Ty α3} {τ4 : Ty α4} {τ5 : Ty α5} {pre : α1 → α2 → α3 → α4 → α5 → Prop} {f : α1 → α2 → α3 → α4 → α5 → γ} (h : spF5 τ1 τ2 τ3 τ4 τ5 pre φ f vs H Q E) : vs.length = 5 := by
  obtain ⟨_, _, _, _, _, _, _, r, _⟩ := h
  exact r.len
theorem spF5_body {α1 : Type} {α2 : Type} {α3 : Type} {α4 : Type} {α5 : Type} {τ1 : Ty α1} {τ2 : Ty α2} {τ3 : Ty α3} {τ4 : Ty α4} {τ5 : Ty α5} {pre : α1 → α2 → α3 → α4 → α5 → Prop} {f : α1 → α2 → α3 → α4 → α5 → γ} {N : List Str} {t : TS} (hl : 5 ≤ N.length) (h : spF5 τ1 τ2 τ3 τ4 τ5 pre φ f vs H Q E) (hb : ∀ B0 : Bs, B0.n = N.length → ∀ (x1 : α1) (x2 : α2) (x3 : α3) (x4 : α4) (x5 : α5), pre x1 x2 x3 x4 x5 → RtF B0 φ (f x1 x2 x3 x4 x5) Q → G B0 t [(0, .fz τ1 x1), (1, .fz τ2 x2), (2, .fz τ3 x3), (3, .fz τ4 x4), (4, .fz τ5 x5)] { nx := fun _ H' => Q .non H', rt := Q }) : t { nx := fun _ H' => Q .non H', rt := Q } (L2.start N vs) H := by
  obtain ⟨x1, x2, x3, x4, x5, Hv, vis, rs, p, k⟩ := h
  exact hb ⟨H, Hv, fun _ => False, N.length⟩ rfl x1 x2 x3 x4 x5 p ⟨fun _ z => z, k⟩ _ _ _ (wd_start vis rs hl)
theorem sm_call5 {α1 : Type} {α2 : Type} {α3 : Type} {α4 : Type} {α5 : Type} {τ1 : Ty α1} {τ2 : Ty α2} {τ3 : Ty α3} {τ4 : Ty α4} {τ5 : Ty α5} {pre : α1 → α2 → α3 → α4 → α5 → Prop} {f : α1 → α2 → α3 → α4 → α5 → γ} {x1 : α1} {x2 : α2} {x3 : α3} {x4 : α4} {x5 : α5} {t : TA} (ha : SmA B Γ t [⟨τ1, x1⟩, ⟨τ2, x2⟩, ⟨τ3, x3⟩, ⟨τ4, x4⟩, ⟨τ5, x5⟩]) (hp : pre x1 x2 x3 x4 x5) : Sm B Γ (tCall (spF5 τ1 τ2 τ3 τ4 τ5 pre φ f) [] E t) φ (f x1 x2 x3 x4 x5) := fun σ Hv H w Q k =>
  ha σ Hv H w _ fun us Hv1 H1 g1 rs => by
    show spF5 τ1 τ2 τ3 τ4 τ5 pre φ f (us ++ []) H1 Q E
    rw [List.append_nil]
    exact ⟨x1, x2, x3, x4, x5, Hv1, g1.vis, rs, hp, fun v Hv2 H2 g2 r2 => k _ _ _ (g1.trans g2) r2⟩
theorem sm_meth5 {α1 : Type} {α2 : Type} {α3 : Type} {α4 : Type} {α5 : Type} {C : Addr} {sch : α1 → List (Str × As)} {τ2 : Ty α2} {τ3 : Ty α3} {τ4 : Ty α4} {τ5 : Ty α5} {pre : α1 → α2 → α3 → α4 → α5 → Prop} {f : α1 → α2 → α3 → α4 → α5 → γ} {m : Str} {x1 : α1} {x2 : α2} {x3 : α3} {x4 : α4} {x5 : α5} {ta : TE} {t : TA} (h : Sm B Γ ta (tObj C sch) x1) (ns : List Str) (hm : ixOf ns m = none) (hns : (sch x1).map (·.1) = ns) (ha : SmA B Γ t [⟨τ2, x2⟩, ⟨τ3, x3⟩, ⟨τ4, x4⟩, ⟨τ5, x5⟩]) (hp : pre x1 x2 x3 x4 x5) : Sm B Γ (tMeth C m (spF5 (tObj C sch) τ2 τ3 τ4 τ5 pre φ f) [] E ta t) φ (f x1 x2 x3 x4 x5) := fun σ Hv H w Q k =>
  h σ Hv H w _ fun v Hv1 H1 g1 rv => by
    have rv' := rv
    obtain ⟨a, dx, fs, ev, h1, r1⟩ := rv
    refine ⟨a, dx, fs, ev, g1.vis _ _ h1, r1.none (by rw [hns]; exact hm), ha σ Hv1 H1 (w.grow g1) _ fun us Hv2 H2 g2 rs => ?_⟩
    show spF5 (tObj C sch) τ2 τ3 τ4 τ5 pre φ f (v :: (us ++ [])) H2 Q E
    rw [List.append_nil]
    exact ⟨x1, x2, x3, x4, x5, Hv2, g2.vis, .cons ((tObj C sch).mono g2.v rv') rs, hp, fun v Hv3 H3 g3 r3 => k _ _ _ ((g1.trans g2).trans g3) r3⟩
def spO5 {α1 : Type} {α2 : Type} {α3 : Type} {α4 : Type} {α5 : Type} (τ1 : Ty α1) (τ2 : Ty α2) (τ3 : Ty α3) (τ4 : Ty α4) (τ5 : Ty α5) (pre : α1 → α2 → α3 → α4 → α5 → Prop) (φ : Ty γ) (f : α1 → α2 → α3 → α4 → α5 → List γ) : Sp := fun vs H Q _ => ∃ (x1 : α1) (x2 : α2) (x3 : α3) (x4 : α4) (x5 : α5), ∃ Hv, Same Hv H ∧ Reps Hv vs [⟨τ1, x1⟩, ⟨τ2, x2⟩, ⟨τ3, x3⟩, ⟨τ4, x4⟩, ⟨τ5, x5⟩] ∧ pre x1 x2 x3 x4 x5 ∧ ∀ l us Hv' H', Grow Hv H Hv' H' → H l = none → H' l = some (.lst us) → Hv' l = none → Paired (φ.rep Hv') us (f x1 x2 x3 x4 x5) → Q (.ref l) H'
theorem spO5_len {α1 : Type} {α2 : Type} {α3 : Type} {α4 : Type} {α5 : Type} {τ1 : Ty α1} {τ2 : Ty α2} {τ3 : Ty α3} {τ4 : Ty α4} {τ5 : Ty α5} {pre : α1 → α2 → α3 → α4 → α5 → Prop} {f : α1 → α2 → α3 → α4 → α5 → List γ} (h : spO5 τ1 τ2 τ3 τ4 τ5 pre φ f vs H Q E) : vs.length = 5 := by
  obtain ⟨_, _, _, _, _, _, _, r, _⟩ := h
  exact r.len
theorem spO5_body {α1 : Type} {α2 : Type} {α3 : Type} {α4 : Type} {α5 : Type} {τ1 : Ty α1} {τ2 : Ty α2} {τ3 : Ty α3} {τ4 : Ty α4} {τ5 : Ty α5} {pre : α1 → α2 → α3 → α4 → α5 → Prop} {f : α1 → α2 → α3 → α4 → α5 → List γ} {N : List Str} {t : TS} (hl : 5 ≤ N.length) (h : spO5 τ1 τ2 τ3 τ4 τ5 pre φ f vs H Q E) (hb : ∀ B0 : Bs, B0.n = N.length → ∀ (x1 : α1) (x2 : α2) (x3 : α3) (x4 : α4) (x5 : α5), pre x1 x2 x3 x4 x5 → RtO B0 φ (f x1 x2 x3 x4 x5) Q → G B0 t [(0, .fz τ1 x1), (1, .fz τ2 x2), (2, .fz τ3 x3), (3, .fz τ4 x4), (4, .fz τ5 x5)] { nx := fun _ H' => Q .non H', rt := Q }) : t { nx := fun _ H' => Q .non H', rt := Q } (L2.start N vs) H := by
  obtain ⟨x1, x2, x3, x4, x5, Hv, vis, rs, p, k⟩ := h
  exact hb ⟨H, Hv, fun _ => False, N.length⟩ rfl x1 x2 x3 x4 x5 p ⟨fun _ z => z, k⟩ _ _ _ (wd_start vis rs hl)
theorem smo_call5 {α1 : Type} {α2 : Type} {α3 : Type} {α4 : Type} {α5 : Type} {τ1 : Ty α1} {τ2 : Ty α2} {τ3 : Ty α3} {τ4 : Ty α4} {τ5 : Ty α5} {pre : α1 → α2 → α3 → α4 → α5 → Prop} {f : α1 → α2 → α3 → α4 → α5 → List γ} {x1 : α1} {x2 : α2} {x3 : α3} {x4 : α4} {x5 : α5} {t : TA} (ha : SmA B Γ t [⟨τ1, x1⟩, ⟨τ2, x2⟩, ⟨τ3, x3⟩, ⟨τ4, x4⟩, ⟨τ5, x5⟩]) (hp : pre x1 x2 x3 x4 x5) : SmO B Γ (tCall (spO5 τ1 τ2 τ3 τ4 τ5 pre φ f) [] E t) φ (f x1 x2 x3 x4 x5) := fun σ Hv H w Q k =>
  ha σ Hv H w _ fun us Hv1 H1 g1 rs => by
    show spO5 τ1 τ2 τ3 τ4 τ5 pre φ f (us ++ []) H1 Q E
    rw [List.append_nil]
    exact ⟨x1, x2, x3, x4, x5, Hv1, g1.vis, rs, hp, fun l us Hv2 H2 g2 e0 e1 e2 r2 => k _ _ _ _ (g1.trans g2) (Same.free g1.s e0) e1 e2 r2⟩
theorem smo_meth5 {α1 : Type} {α2 : Type} {α3 : Type} {α4 : Type} {α5 : Type} {C : Addr} {sch : α1 → List (Str × As)} {τ2 : Ty α2} {τ3 : Ty α3} {τ4 : Ty α4} {τ5 : Ty α5} {pre : α1 → α2 → α3 → α4 → α5 → Prop} {f : α1 → α2 → α3 → α4 → α5 → List γ} {m : Str} {x1 : α1} {x2 : α2} {x3 : α3} {x4 : α4} {x5 : α5} {ta : TE} {t : TA} (h : Sm B Γ ta (tObj C sch) x1) (ns : List Str) (hm : ixOf ns m = none) (hns : (sch x1).map (·.1) = ns) (ha : SmA B Γ t [⟨τ2, x2⟩, ⟨τ3, x3⟩, ⟨τ4, x4⟩, ⟨τ5, x5⟩]) (hp : pre x1 x2 x3 x4 x5) : SmO B Γ (tMeth C m (spO5 (tObj C sch) τ2 τ3 τ4 τ5 pre φ f) [] E ta t) φ (f x1 x2 x3 x4 x5) := fun σ Hv H w Q k =>
  h σ Hv H w _ fun v Hv1 H1 g1 rv => by
    have rv' := rv
    obtain ⟨a, dx, fs, ev, h1, r1⟩ := rv
    refine ⟨a, dx, fs, ev, g1.vis _ _ h1, r1.none (by rw [hns]; exact hm), ha σ Hv1 H1 (w.grow g1) _ fun us Hv2 H2 g2 rs => ?_⟩
    show spO5 (tObj C sch) τ2 τ3 τ4 τ5 pre φ f (v :: (us ++ [])) H2 Q E
    rw [List.append_nil]
    exact ⟨x1, x2, x3, x4, x5, Hv2, g2.vis, .cons ((tObj C sch).mono g2.v rv') rs, hp, fun l us Hv3 H3 g3 e0 e1 e2 r3 => k _ _ _ _ ((g1.trans g2).trans g3) (Same.free (g1.trans g2).s e0) e1 e2 r3⟩
def spF6 {α1 : Type} {α2 : Type} {α3 : Type} {α4 : Type} {α5 : Type} {α6 : Type} (τ1 : Ty α1) (τ2 : Ty α2) (τ3 : Ty α3) (τ4 : Ty α4) (τ5 : Ty α5) (τ6 : Ty α6) (pre : α1 → α2 → α3 → α4 → α5 → α6 → Prop) (φ : Ty γ) (f : α1 → α2 → α3 → α4 → α5 → α6 → γ) : Sp := fun vs H Q _ => ∃ (x1 : α1) (x2 : α2) (x3 : α3) (x4 : α4) (x5 : α5) (x6 : α6), ∃ Hv, Same Hv H ∧ Reps Hv vs [⟨τ1, x1⟩, ⟨τ2, x2⟩, ⟨τ3, x3⟩, ⟨τ4, x4⟩, ⟨τ5, x5⟩, ⟨τ6, x6⟩] ∧ pre x1 x2 x3 x4 x5 x6 ∧ ∀ v Hv' H', Grow Hv H Hv' H' → φ.rep Hv' v (f x1 x2 x3 x4 x5 x6) → Q v H'
theorem spF6_len {α1 : Type} {α2 : Type} {α3 : Type} {α4 : Type} {α5 : Type} {α6 : Type} {τ1 : Ty α1} {τ2 : Ty α2} {τ3 : Ty α3} {τ4 : Ty α4} {τ5 : Ty α5} {τ6 : Ty α6} {pre : α1 → α2 → α3 → α4 → α5 → α6 → Prop} {f : α1 → α2 → α3 → α4 → α5 → α6 → γ} (h : spF6 τ1 τ2 τ3 τ4 τ5 τ6 pre φ f vs H Q E) : vs.length = 6 := by
  obtain ⟨_, _, _, _, _, _, _, _, r, _⟩ := h
  exact r.len
theorem spF6_body {α1 : Type} {α2 : Type} {α3 : Type} {α4 : Type} {α5 : Type} {α6 : Type} {τ1 : Ty α1} {τ2 : Ty α2} {τ3 : Ty α3} {τ4 : Ty α4} {τ5 : Ty α5} {τ6 : Ty α6} {pre : α1 → α2 → α3 → α4 → α5 → α6 → Prop} {f : α1 → α2 → α3 → α4 → α5 → α6 → γ} {N : List Str} {t : TS} (hl : 6 ≤ N.length) (h : spF6 τ1 τ2 τ3 τ4 τ5 τ6 pre φ f vs H Q E) (hb : ∀ B0 : Bs, B0.n = N.length → ∀ (x1 : α1) (x2 : α2) (x3 : α3) (x4 : α4) (x5 : α5) (x6 : α6), pre x1 x2 x3 x4 x5 x6 → RtF B0 φ (f x1 x2 x3 x4 x5 x6) Q → G B0 t [(0, .fz τ1 x1), (1, .fz τ2 x2), (2, .fz τ3 x3), (3, .fz τ4 x4), (4, .fz τ5 x5), (5, .fz τ6 x6)] { nx := fun _ H' => Q .non H', rt := Q }) : t { nx := fun _ H' => Q .non H', rt := Q } (L2.start N vs) H := by
  obtain ⟨x1, x2, x3, x4, x5, x6, Hv, vis, rs, p, k⟩ := h
  exact hb ⟨H, Hv, fun _ => False, N.length⟩ rfl x1 x2 x3 x4 x5 x6 p ⟨fun _ z => z, k⟩ _ _ _ (wd_start vis rs hl)
theorem sm_call6 {α1 : Type} {α2 : Type} {α3 : Type} {α4 : Type} {α5 : Type} {α6 : Type} {τ1 : Ty α1} {τ2 : Ty α2} {τ3 : Ty α3} {τ4 : Ty α4} {τ5 : Ty α5} {τ6 : Ty α6} {pre : α1 → α2 → α3 → α4 → α5 → α6 → Prop} {f : α1 → α2 → α3 → α4 → α5 → α6 → γ} {x1 : α1} {x2 : α2} {x3 : α3} {x4 : α4} {x5 : α5} {x6 : α6} {t : TA} (ha : SmA B Γ t [⟨τ1, x1⟩, ⟨τ2, x2⟩, ⟨τ3, x3⟩, ⟨τ4, x4⟩, ⟨τ5, x5⟩, ⟨τ6, x6⟩]) (hp : pre x1 x2 x3 x4 x5 x6) : Sm B Γ (tCall (spF6 τ1 τ2 τ3 τ4 τ5 τ6 pre φ f) [] E t) φ (f x1 x2 x3 x4 x5 x6) := fun σ Hv H w Q k =>
  ha σ Hv H w _ fun us Hv1 H1 g1 rs => by
    show spF6 τ1 τ2 τ3 τ4 τ5 τ6 pre φ f (us ++ []) H1 Q E
    rw [List.append_nil]
    exact ⟨x1, x2, x3, x4, x5, x6, Hv1, g1.vis, rs, hp, fun v Hv2 H2 g2 r2 => k _ _ _ (g1.trans g2) r2⟩
theorem sm_meth6 {α1 : Type} {α2 : Type} {α3 : Type} {α4 : Type} {α5 : Type} {α6 : Type} {C : Addr} {sch : α1 → List (Str × As)} {τ2 : Ty α2} {τ3 : Ty α3} {τ4 : Ty α4} {τ5 : Ty α5} {τ6 : Ty α6} {pre : α1 → α2 → α3 → α4 → α5 → α6 → Prop} {f : α1 → α2 → α3 → α4 → α5 → α6 → γ} {m : Str} {x1 : α1} {x2 : α2} {x3 : α3} {x4 : α4} {x5 : α5} {x6 : α6} {ta : TE} {t : TA} (h : Sm B Γ ta (tObj C sch) x1) (ns : List Str) (hm : ixOf ns m = none) (hns : (sch x1).map (·.1) = ns) (ha : SmA B Γ t [⟨τ2, x2⟩, ⟨τ3, x3⟩, ⟨τ4, x4⟩, ⟨τ5, x5⟩, ⟨τ6, x6⟩]) (hp : pre x1 x2 x3 x4 x5 x6) : Sm B Γ (tMeth C m (spF6 (tObj C sch) τ2 τ3 τ4 τ5 τ6 pre φ f) [] E ta t) φ (f x1 x2 x3 x4 x5 x6) := fun σ Hv H w Q k =>
  h σ Hv H w _ fun v Hv1 H1 g1 rv => by
    have rv' := rv
    obtain ⟨a, dx, fs, ev, h1, r1⟩ := rv
    refine ⟨a, dx, fs, ev, g1.vis _ _ h1, r1.none (by rw [hns]; exact hm), ha σ Hv1 H1 (w.grow g1) _ fun us Hv2 H2 g2 rs => ?_⟩
    show spF6 (tObj C sch) τ2 τ3 τ4 τ5 τ6 pre φ f (v :: (us ++ [])) H2 Q E
    rw [List.append_nil]
    exact ⟨x1, x2, x3, x4, x5, x6, Hv2, g2.vis, .cons ((tObj C sch).mono g2.v rv') rs, hp, fun v Hv3 H3 g3 r3 => k _ _ _ ((g1.trans g2).trans g3) r3⟩
def spO6 {α1 : Type} {α2 : Type} {α3 : Type} {α4 : Type} {α5 : Type} {α6 : Type} (τ1 : Ty α1) (τ2 : Ty α2) (τ3 : Ty α3) (τ4 : Ty α4) (τ5 : Ty α5) (τ6 : Ty α6) (pre : α1 → α2 → α3 → α4 → α5 → α6 → Prop) (φ : Ty γ) (f : α1 → α2 → α3 → α4 → α5 → α6 → List γ) : Sp := fun vs H Q _ => ∃ (x1 : α1) (x2 : α2) (x3 : α3) (x4 : α4) (x5 : α5) (x6 : α6), ∃ Hv, Same Hv H ∧ Reps Hv vs [⟨τ1, x1⟩, ⟨τ2, x2⟩, ⟨τ3, x3⟩, ⟨τ4, x4⟩, ⟨τ5, x5⟩, ⟨τ6, x6⟩] ∧ pre x1 x2 x3 x4 x5 x6 ∧ ∀ l us Hv' H', Grow Hv H Hv' H' → H l = none → H' l = some (.lst us) → Hv' l = none → Paired (φ.rep Hv') us (f x1 x2 x3 x4 x5 x6) → Q (.ref l) H'
theorem spO6_len {α1 : Type} {α2 : Type} {α3 : Type} {α4 : Type} {α5 : Type} {α6 : Type} {τ1 : Ty α1} {τ2 : Ty α2} {τ3 : Ty α3} {τ4 : Ty α4} {τ5 : Ty α5} {τ6 : Ty α6} {pre : α1 → α2 → α3 → α4 → α5 → α6 → Prop} {f : α1 → α2 → α3 → α4 → α5 → α6 → List γ} (h : spO6 τ1 τ2 τ3 τ4 τ5 τ6 pre φ f vs H Q E) : vs.length = 6 := by
  obtain ⟨_, _, _, _, _, _, _, _, r, _⟩ := h
  exact r.len
theorem spO6_body {α1 : Type} {α2 : Type} {α3 : Type} {α4 : Type} {α5 : Type} {α6 : Type} {τ1 : Ty α1} {τ2 : Ty α2} {τ3 : Ty α3} {τ4 : Ty α4} {τ5 : Ty α5} {τ6 : Ty α6} {pre : α1 → α2 → α3 → α4 → α5 → α6 → Prop} {f : α1 → α2 → α3 → α4 → α5 → α6 → List γ} {N : List Str} {t : TS} (hl : 6 ≤ N.length) (h : spO6 τ1 τ2 τ3 τ4 τ5 τ6 pre φ f vs H Q E) (hb : ∀ B0 : Bs, B0.n = N.length → ∀ (x1 : α1) (x2 : α2) (x3 : α3) (x4 : α4) (x5 : α5) (x6 : α6), pre x1 x2 x3 x4 x5 x6 → RtO B0 φ (f x1 x2 x3 x4 x5 x6) Q → G B0 t [(0, .fz τ1 x1), (1, .fz τ2 x2), (2, .fz τ3 x3), (3, .fz τ4 x4), (4, .fz τ5 x5), (5, .fz τ6 x6)] { nx := fun _ H' => Q .non H', rt := Q }) : t { nx := fun _ H' => Q .non H', rt := Q } (L2.start N vs) H := by
  obtain ⟨x1, x2, x3, x4, x5, x6, Hv, vis, rs, p, k⟩ := h
  exact hb ⟨H, Hv, fun _ => False, N.length⟩ rfl x1 x2 x3 x4 x5 x6 p ⟨fun _ z => z, k⟩ _ _ _ (wd_start vis rs hl)
theorem smo_call6 {α1 : Type} {α2 : Type} {α3 : Type} {α4 : Type} {α5 : Type} {α6 : Type} {τ1 : Ty α1} {τ2 : Ty α2} {τ3 : Ty α3} {τ4 : Ty α4} {τ5 : Ty α5} {τ6 : Ty α6} {pre : α1 → α2 → α3 → α4 → α5 → α6 → Prop} {f : α1 → α2 → α3 → α4 → α5 → α6 → List γ} {x1 : α1} {x2 : α2} {x3 : α3} {x4 : α4} {x5 : α5} {x6 : α6} {t : TA} (ha : SmA B Γ t [⟨τ1, x1⟩, ⟨τ2, x2⟩, ⟨τ3, x3⟩, ⟨τ4, x4⟩, ⟨τ5, x5⟩, ⟨τ6, x6⟩]) (hp : pre x1 x2 x3 x4 x5 x6) : SmO B Γ (tCall (spO6 τ1 τ2 τ3 τ4 τ5 τ6 pre φ f) [] E t) φ (f x1 x2 x3 x4 x5 x6) := fun σ Hv H w Q k =>
  ha σ Hv H w _ fun us Hv1 H1 g1 rs => by
    show spO6 τ1 τ2 τ3 τ4 τ5 τ6 pre φ f (us ++ []) H1 Q E
    rw [List.append_nil]
    exact ⟨x1, x2, x3, x4, x5, x6, Hv1, g1.vis, rs, hp, fun l us Hv2 H2 g2 e0 e1 e2 r2 => k _ _ _ _ (g1.trans g2) (Same.free g1.s e0) e1 e2 r2⟩
theorem smo_meth6 {α1 : Type} {α2 : Type} {α3 : Type} {α4 : Type} {α5 : Type} {α6 : Type} {C : Addr} {sch : α1 → List (Str × As)} {τ2 : Ty α2} {τ3 : Ty α3} {τ4 : Ty α4} {τ5 : Ty α5} {τ6 : Ty α6} {pre : α1 → α2 → α3 → α4 → α5 → α6 → Prop} {f : α1 → α2 → α3 → α4 → α5 → α6 → List γ} {m : Str} {x1 : α1} {x2 : α2} {x3 : α3} {x4 : α4} {x5 : α5} {x6 : α6} {ta : TE} {t : TA} (h : Sm B Γ ta (tObj C sch) x1) (ns : List Str) (hm : ixOf ns m = none) (hns : (sch x1).map (·.1) = ns) (ha : SmA B Γ t [⟨τ2, x2⟩, ⟨τ3, x3⟩, ⟨τ4, x4⟩, ⟨τ5, x5⟩, ⟨τ6, x6⟩]) (hp : pre x1 x2 x3 x4 x5 x6) : SmO B Γ (tMeth C m (spO6 (tObj C sch) τ2 τ3 τ4 τ5 τ6 pre φ f) [] E ta t) φ (f x1 x2 x3 x4 x5 x6) := fun σ Hv H w Q k =>
  h σ Hv H w _ fun v Hv1 H1 g1 rv => by
    have rv' := rv
    obtain ⟨a, dx, fs, ev, h1, r1⟩ := rv
    refine ⟨a, dx, fs, ev, g1.vis _ _ h1, r1.none (by rw [hns]; exact hm), ha σ Hv1 H1 (w.grow g1) _ fun us Hv2 H2 g2 rs => ?_⟩
    show spO6 (tObj C sch) τ2 τ3 τ4 τ5 τ6 pre φ f (v :: (us ++ [])) H2 Q E
    rw [List.append_nil]
    exact ⟨x1, x2, x3, x4, x5, x6, Hv2, g2.vis, .cons ((tObj C sch).mono g2.v rv') rs, hp, fun l us Hv3 H3 g3 e0 e1 e2 r3 => k _ _ _ _ ((g1.trans g2).trans g3) (Same.free (g1.trans g2).s e0) e1 e2 r3⟩
def spF7 {α1 : Type} {α2 : Type} {α3 : Type} {α4 : Type} {α5 : Type} {α6 : Type} {α7 : Type} (τ1 : Ty α1) (τ2 : Ty α2) (τ3 : Ty α3) (τ4 : Ty α4) (τ5 : Ty α5) (τ6 : Ty α6) (τ7 : Ty α7) (pre : α1 → α2 → α3 → α4 → α5 → α6 → α7 → Prop) (φ : Ty γ) (f : α1 → α2 → α3 → α4 → α5 → α6 → α7 → γ) : Sp := fun vs H Q _ => ∃ (x1 : α1) (x2 : α2) (x3 : α3) (x4 : α4) (x5 : α5) (x6 : α6) (x7 : α7), ∃ Hv, Same Hv H ∧ Reps Hv vs [⟨τ1, x1⟩, ⟨τ2, x2⟩, ⟨τ3, x3⟩, ⟨τ4, x4⟩, ⟨τ5, x5⟩, ⟨τ6, x6⟩, ⟨τ7, x7⟩] ∧ pre x1 x2 x3 x4 x5 x6 x7 ∧ ∀ v Hv' H', Grow Hv H Hv' H' → φ.rep Hv' v (f x1 x2 x3 x4 x5 x6 x7) → Q v H'
theorem spF7_len {α1 : Type} {α2 : Type} {α3 : Type} {α4 : Type} {α5 : Type} {α6 : Type} {α7 : Type} {τ1 : Ty α1} {τ2 : Ty α2} {τ3 : Ty α3} {τ4 : Ty α4} {τ5 : Ty α5} {τ6 : Ty α6} {τ7 : Ty α7} {pre : α1 → α2 → α3 → α4 → α5 → α6 → α7 → Prop} {f : α1 → α2 → α3 → α4 → α5 → α6 → α7 → γ} (h : spF7 τ1 τ2 τ3 τ4 τ5 τ6 τ7 pre φ f vs H Q E) : vs.length = 7 := by
  obtain ⟨_, _, _, _, _, _, _, _, _, r, _⟩ := h
  exact r.len
theorem spF7_body {α1 : Type} {α2 : Type} {α3 : Type} {α4 : Type} {α5 : Type} {α6 : Type} {α7 : Type} {τ1 : Ty α1} {τ2 : Ty α2} {τ3 : Ty α3} {τ4 : Ty α4} {τ5 : Ty α5} {τ6 : Ty α6} {τ7 : Ty α7} {pre : α1 → α2 → α3 → α4 → α5 → α6 → α7 → Prop} {f : α1 → α2 → α3 → α4 → α5 → α6 → α7 → γ} {N : List Str} {t : TS} (hl : 7 ≤ N.length) (h : spF7 τ1 τ2 τ3 τ4 τ5 τ6 τ7 pre φ f vs H Q E) (hb : ∀ B0 : Bs, B0.n = N.length → ∀ (x1 : α1) (x2 : α2) (x3 : α3) (x4 : α4) (x5 : α5) (x6 : α6) (x7 : α7), pre x1 x2 x3 x4 x5 x6 x7 → RtF B0 φ (f x1 x2 x3 x4 x5 x6 x7) Q → G B0 t [(0, .fz τ1 x1), (1, .fz τ2 x2), (2, .fz τ3 x3), (3, .fz τ4 x4), (4, .fz τ5 x5), (5, .fz τ6 x6), (6, .fz τ7 x7)] { nx := fun _ H' => Q .non H', rt := Q }) : t { nx := fun _ H' => Q .non H', rt := Q } (L2.start N vs) H := by
  obtain ⟨x1, x2, x3, x4, x5, x6, x7, Hv, vis, rs, p, k⟩ := h
  exact hb ⟨H, Hv, fun _ => False, N.length⟩ rfl x1 x2 x3 x4 x5 x6 x7 p ⟨fun _ z => z, k⟩ _ _ _ (wd_start vis rs hl)
theorem sm_call7 {α1 : Type} {α2 : Type} {α3 : Type} {α4 : Type} {α5 : Type} {α6 : Type} {α7 : Type} {τ1 : Ty α1} {τ2 : Ty α2} {τ3 : Ty α3} {τ4 : Ty α4} {τ5 : Ty α5} {τ6 : Ty α6} {τ7 : Ty α7} {pre : α1 → α2 → α3 → α4 → α5 → α6 → α7 → Prop} {f : α1 → α2 → α3 → α4 → α5 → α6 → α7 → γ} {x1 : α1} {x2 : α2} {x3 : α3} {x4 : α4} {x5 : α5} {x6 : α6} {x7 : α7} {t : TA} (ha : SmA B Γ t [⟨τ1, x1⟩, ⟨τ2, x2⟩, ⟨τ3, x3⟩, ⟨τ4, x4⟩, ⟨τ5, x5⟩, ⟨τ6, x6⟩, ⟨τ7, x7⟩]) (hp : pre x1 x2 x3 x4 x5 x6 x7) : Sm B Γ (tCall (spF7 τ1 τ2 τ3 τ4 τ5 τ6 τ7 pre φ f) [] E t) φ (f x1 x2 x3 x4 x5 x6 x7) := fun σ Hv H w Q k =>
  ha σ Hv H w _ fun us Hv1 H1 g1 rs => by
    show spF7 τ1 τ2 τ3 τ4 τ5 τ6 τ7 pre φ f (us ++ []) H1 Q E
    rw [List.append_nil]
    exact ⟨x1, x2, x3, x4, x5, x6, x7, Hv1, g1.vis, rs, hp, fun v Hv2 H2 g2 r2 => k _ _ _ (g1.trans g2) r2⟩
theorem sm_meth7 {α1 : Type} {α2 : Type} {α3 : Type} {α4 : Type} {α5 : Type} {α6 : Type} {α7 : Type} {C : Addr} {sch : α1 → List (Str × As)} {τ2 : Ty α2} {τ3 : Ty α3} {τ4 : Ty α4} {τ5 : Ty α5} {τ6 : Ty α6} {τ7 : Ty α7} {pre : α1 → α2 → α3 → α4 → α5 → α6 → α7 → Prop} {f : α1 → α2 → α3 → α4 → α5 → α6 → α7 → γ} {m : Str} {x1 : α1} {x2 : α2} {x3 : α3} {x4 : α4} {x5 : α5} {x6 : α6} {x7 : α7} {ta : TE} {t : TA} (h : Sm B Γ ta (tObj C sch) x1) (ns : List Str) (hm : ixOf ns m = none) (hns : (sch x1).map (·.1) = ns) (ha : SmA B Γ t [⟨τ2, x2⟩, ⟨τ3, x3⟩, ⟨τ4, x4⟩, ⟨τ5, x5⟩, ⟨τ6, x6⟩, ⟨τ7, x7⟩]) (hp : pre x1 x2 x3 x4 x5 x6 x7) : Sm B Γ (tMeth C m (spF7 (tObj C sch) τ2 τ3 τ4 τ5 τ6 τ7 pre φ f) [] E ta t) φ (f x1 x2 x3 x4 x5 x6 x7) := fun σ Hv H w Q k =>
  h σ Hv H w _ fun v Hv1 H1 g1 rv => by
    have rv' := rv
    obtain ⟨a, dx, fs, ev, h1, r1⟩ := rv
    refine ⟨a, dx, fs, ev, g1.vis _ _ h1, r1.none (by rw [hns]; exact hm), ha σ Hv1 H1 (w.grow g1) _ fun us Hv2 H2 g2 rs => ?_⟩
    show spF7 (tObj C sch) τ2 τ3 τ4 τ5 τ6 τ7 pre φ f (v :: (us ++ [])) H2 Q E
    rw [List.append_nil]
    exact ⟨x1, x2, x3, x4, x5, x6, x7, Hv2, g2.vis, .cons ((tObj C sch).mono g2.v rv') rs, hp, fun v Hv3 H3 g3 r3 => k _ _ _ ((g1.trans g2).trans g3) r3⟩
def spO7 {α1 : Type} {α2 : Type} {α3 : Type} {α4 : Type} {α5 : Type} {α6 : Type} {α7 : Type} (τ1 : Ty α1) (τ2 : Ty α2) (τ3 : Ty α3) (τ4 : Ty α4) (τ5 : Ty α5) (τ6 : Ty α6) (τ7 : Ty α7) (pre : α1 → α2 → α3 → α4 → α5 → α6 → α7 → Prop) (φ : Ty γ) (f : α1 → α2 → α3 → α4 → α5 → α6 → α7 → List γ) : Sp := fun vs H Q _ => ∃ (x1 : α1) (x2 : α2) (x3 : α3) (x4 : α4) (x5 : α5) (x6 : α6) (x7 : α7), ∃ Hv, Same Hv H ∧ Reps Hv vs [⟨τ1, x1⟩, ⟨τ2, x2⟩, ⟨τ3, x3⟩, ⟨τ4, x4⟩, ⟨τ5, x5⟩, ⟨τ6, x6⟩, ⟨τ7, x7⟩] ∧ pre x1 x2 x3 x4 x5 x6 x7 ∧ ∀ l us Hv' H', Grow Hv H Hv' H' → H l = none → H' l = some (.lst us) → Hv' l = none → Paired (φ.rep Hv') us (f x1 x2 x3 x4 x5 x6 x7) → Q (.ref l) H'
theorem spO7_len {α1 : Type} {α2 : Type} {α3 : Type} {α4 : Type} {α5 : Type} {α6 : Type} {α7 : Type} {τ1 : Ty α1} {τ2 : Ty α2} {τ3 : Ty α3} {τ4 : Ty α4} {τ5 : Ty α5} {τ6 : Ty α6} {τ7 : Ty α7} {pre : α1 → α2 → α3 → α4 → α5 → α6 → α7 → Prop} {f : α1 → α2 → α3 → α4 → α5 → α6 → α7 → List γ} (h : spO7 τ1 τ2 τ3 τ4 τ5 τ6 τ7 pre φ f vs H Q E) : vs.length = 7 := by
  obtain ⟨_, _, _, _, _, _, _, _, _, r, _⟩ := h
  exact r.len
theorem spO7_body {α1 : Type} {α2 : Type} {α3 : Type} {α4 : Type} {α5 : Type} {α6 : Type} {α7 : Type} {τ1 : Ty α1} {τ2 : Ty α2} {τ3 : Ty α3} {τ4 : Ty α4} {τ5 : Ty α5} {τ6 : Ty α6} {τ7 : Ty α7} {pre : α1 → α2 → α3 → α4 → α5 → α6 → α7 → Prop} {f : α1 → α2 → α3 → α4 → α5 → α6 → α7 → List γ} {N : List Str} {t : TS} (hl : 7 ≤ N.length) (h : spO7 τ1 τ2 τ3 τ4 τ5 τ6 τ7 pre φ f vs H Q E) (hb : ∀ B0 : Bs, B0.n = N.length → ∀ (x1 : α1) (x2 : α2) (x3 : α3) (x4 : α4) (x5 : α5) (x6 : α6) (x7 : α7), pre x1 x2 x3 x4 x5 x6 x7 → RtO B0 φ (f x1 x2 x3 x4 x5 x6 x7) Q → G B0 t [(0, .fz τ1 x1), (1, .fz τ2 x2), (2, .fz τ3 x3), (3, .fz τ4 x4), (4, .fz τ5 x5), (5, .fz τ6 x6), (6, .fz τ7 x7)] { nx := fun _ H' => Q .non H', rt := Q }) : t { nx := fun _ H' => Q .non H', rt := Q } (L2.start N vs) H := by
  obtain ⟨x1, x2, x3, x4, x5, x6, x7, Hv, vis, rs, p, k⟩ := h
  exact hb ⟨H, Hv, fun _ => False, N.length⟩ rfl x1 x2 x3 x4 x5 x6 x7 p ⟨fun _ z => z, k⟩ _ _ _ (wd_start vis rs hl)
theorem smo_call7 {α1 : Type} {α2 : Type} {α3 : Type} {α4 : Type} {α5 : Type} {α6 : Type} {α7 : Type} {τ1 : Ty α1} {τ2 : Ty α2} {τ3 : Ty α3} {τ4 : Ty α4} {τ5 : Ty α5} {τ6 : Ty α6} {τ7 : Ty α7} {pre : α1 → α2 → α3 → α4 → α5 → α6 → α7 → Prop} {f : α1 → α2 → α3 → α4 → α5 → α6 → α7 → List γ} {x1 : α1} {x2 : α2} {x3 : α3} {x4 : α4} {x5 : α5} {x6 : α6} {x7 : α7} {t : TA} (ha : SmA B Γ t [⟨τ1, x1⟩, ⟨τ2, x2⟩, ⟨τ3, x3⟩, ⟨τ4, x4⟩, ⟨τ5, x5⟩, ⟨τ6, x6⟩, ⟨τ7, x7⟩]) (hp : pre x1 x2 x3 x4 x5 x6 x7) : SmO B Γ (tCall (spO7 τ1 τ2 τ3 τ4 τ5 τ6 τ7 pre φ f) [] E t) φ (f x1 x2 x3 x4 x5 x6 x7) := fun σ Hv H w Q k =>
  ha σ Hv H w _ fun us Hv1 H1 g1 rs => by
    show spO7 τ1 τ2 τ3 τ4 τ5 τ6 τ7 pre φ f (us ++ []) H1 Q E
    rw [List.append_nil]
    exact ⟨x1, x2, x3, x4, x5, x6, x7, Hv1, g1.vis, rs, hp, fun l us Hv2 H2 g2 e0 e1 e2 r2 => k _ _ _ _ (g1.trans g2) (Same.free g1.s e0) e1 e2 r2⟩
theorem smo_meth7 {α1 : Type} {α2 : Type} {α3 : Type} {α4 : Type} {α5 : Type} {α6 : Type} {α7 : Type} {C : Addr} {sch : α1 → List (Str × As)} {τ2 : Ty α2} {τ3 : Ty α3} {τ4 : Ty α4} {τ5 : Ty α5} {τ6 : Ty α6} {τ7 : Ty α7} {pre : α1 → α2 → α3 → α4 → α5 → α6 → α7 → Prop} {f : α1 → α2 → α3 → α4 → α5 → α6 → α7 → List γ} {m : Str} {x1 : α1} {x2 : α2} {x3 : α3} {x4 : α4} {x5 : α5} {x6 : α6} {x7 : α7} {ta : TE} {t : TA} (h : Sm B Γ ta (tObj C sch) x1) (ns : List Str) (hm : ixOf ns m = none) (hns : (sch x1).map (·.1) = ns) (ha : SmA B Γ t [⟨τ2, x2⟩, ⟨τ3, x3⟩, ⟨τ4, x4⟩, ⟨τ5, x5⟩, ⟨τ6, x6⟩, ⟨τ7, x7⟩]) (hp : pre x1 x2 x3 x4 x5 x6 x7) : SmO B Γ (tMeth C m (spO7 (tObj C sch) τ2 τ3 τ4 τ5 τ6 τ7 pre φ f) [] E ta t) φ (f x1 x2 x3 x4 x5 x6 x7) := fun σ Hv H w Q k =>
  h σ Hv H w _ fun v Hv1 H1 g1 rv => by
    have rv' := rv
    obtain ⟨a, dx, fs, ev, h1, r1⟩ := rv
    refine ⟨a, dx, fs, ev, g1.vis _ _ h1, r1.none (by rw [hns]; exact hm), ha σ Hv1 H1 (w.grow g1) _ fun us Hv2 H2 g2 rs => ?_⟩
    show spO7 (tObj C sch) τ2 τ3 τ4 τ5 τ6 τ7 pre φ f (v :: (us ++ [])) H2 Q E
    rw [List.append_nil]
    exact ⟨x1, x2, x3, x4, x5, x6, x7, Hv2, g2.vis, .cons ((tObj C sch).mono g2.v rv') rs, hp, fun l us Hv3 H3 g3 e0 e1 e2 r3 => k _ _ _ _ ((g1.trans g2).trans g3) (Same.free (g1.trans g2).s e0) e1 e2 r3⟩
def spF8 {α1 : Type} {α2 : Type} {α3 : Type} {α4 : Type} {α5 : Type} {α6 : Type} {α7 : Type} {α8 : Type} (τ1 : Ty α1) (τ2 : Ty α2) (τ3 : Ty α3) (τ4 : Ty α4) (τ5 : Ty α5) (τ6 : Ty α6) (τ7 : Ty α7) (τ8 : Ty α8) (pre : α1 → α2 → α3 → α4 → α5 → α6 → α7 → α8 → Prop) (φ : Ty γ) (f : α1 → α2 → α3 → α4 → α5 → α6 → α7 → α8 → γ) : Sp := fun vs H Q _ => ∃ (x1 : α1) (x2 : α2) (x3 : α3) (x4 : α4) (x5 : α5) (x6 : α6) (x7 : α7) (x8 : α8), ∃ Hv, Same Hv H ∧ Reps Hv vs [⟨τ1, x1⟩, ⟨τ2, x2⟩, ⟨τ3, x3⟩, ⟨τ4, x4⟩, ⟨τ5, x5⟩, ⟨τ6, x6⟩, ⟨τ7, x7⟩, ⟨τ8, x8⟩] ∧ pre x1 x2 x3 x4 x5 x6 x7 x8 ∧ ∀ v Hv' H', Grow Hv H Hv' H' → φ.rep Hv' v (f x1 x2 x3 x4 x5 x6 x7 x8) → Q v H'
theorem spF8_len {α1 : Type} {α2 : Type} {α3 : Type} {α4 : Type} {α5 : Type} {α6 : Type} {α7 : Type} {α8 : Type} {τ1 : Ty α1} {τ2 : Ty α2} {τ3 : Ty α3} {τ4 : Ty α4} {τ5 : Ty α5} {τ6 : Ty α6} {τ7 : Ty α7} {τ8 : Ty α8} {pre : α1 → α2 → α3 → α4 → α5 → α6 → α7 → α8 → Prop} {f : α1 → α2 → α3 → α4 → α5 → α6 → α7 → α8 → γ} (h : spF8 τ1 τ2 τ3 τ4 τ5 τ6 τ7 τ8 pre φ f vs H Q E) : vs.length = 8 := by
  obtain ⟨_, _, _, _, _, _, _, _, _, _, r, _⟩ := h
  exact r.len
theorem spF8_body {α1 : Type} {α2 : Type} {α3 : Type} {α4 : Type} {α5 : Type} {α6 : Type} {α7 : Type} {α8 : Type} {τ1 : Ty α1} {τ2 : Ty α2} {τ3 : Ty α3} {τ4 : Ty α4} {τ5 : Ty α5} {τ6 : Ty α6} {τ7 : Ty α7} {τ8 : Ty α8} {pre : α1 → α2 → α3 → α4 → α5 → α6 → α7 → α8 → Prop} {f : α1 → α2 → α3 → α4 → α5 → α6 → α7 → α8 → γ} {N : List Str} {t : TS} (hl : 8 ≤ N.length) (h : spF8 τ1 τ2 τ3 τ4 τ5 τ6 τ7 τ8 pre φ f vs H Q E) (hb : ∀ B0 : Bs, B0.n = N.length → ∀ (x1 : α1) (x2 : α2) (x3 : α3) (x4 : α4) (x5 : α5) (x6 : α6) (x7 : α7) (x8 : α8), pre x1 x2 x3 x4 x5 x6 x7 x8 → RtF B0 φ (f x1 x2 x3 x4 x5 x6 x7 x8) Q → G B0 t [(0, .fz τ1 x1), (1, .fz τ2 x2), (2, .fz τ3 x3), (3, .fz τ4 x4), (4, .fz τ5 x5), (5, .fz τ6 x6), (6, .fz τ7 x7), (7, .fz τ8 x8)] { nx := fun _ H' => Q .non H', rt := Q }) : t { nx := fun _ H' => Q .non H', rt := Q } (L2.start N vs) H := by
  obtain ⟨x1, x2, x3, x4, x5, x6, x7, x8, Hv, vis, rs, p, k⟩ := h
  exact hb ⟨H, Hv, fun _ => False, N.length⟩ rfl x1 x2 x3 x4 x5 x6 x7 x8 p ⟨fun _ z => z, k⟩ _ _ _ (wd_start vis rs hl)
theorem sm_call8 {α1 : Type} {α2 : Type} {α3 : Type} {α4 : Type} {α5 : Type} {α6 : Type} {α7 : Type} {α8 : Type} {τ1 : Ty α1} {τ2 : Ty α2} {τ3 : Ty α3} {τ4 : Ty α4} {τ5 : Ty α5} {τ6 : Ty α6} {τ7 : Ty α7} {τ8 : Ty α8} {pre : α1 → α2 → α3 → α4 → α5 → α6 → α7 → α8 → Prop} {f : α1 → α2 → α3 → α4 → α5 → α6 → α7 → α8 → γ} {x1 : α1} {x2 : α2} {x3 : α3} {x4 : α4} {x5 : α5} {x6 : α6} {x7 : α7} {x8 : α8} {t : TA} (ha : SmA B Γ t [⟨τ1, x1⟩, ⟨τ2, x2⟩, ⟨τ3, x3⟩, ⟨τ4, x4⟩, ⟨τ5, x5⟩, ⟨τ6, x6⟩, ⟨τ7, x7⟩, ⟨τ8, x8⟩]) (hp : pre x1 x2 x3 x4 x5 x6 x7 x8) : Sm B Γ (tCall (spF8 τ1 τ2 τ3 τ4 τ5 τ6 τ7 τ8 pre φ f) [] E t) φ (f x1 x2 x3 x4 x5 x6 x7 x8) := fun σ Hv H w Q k =>
  ha σ Hv H w _ fun us Hv1 H1 g1 rs => by
    show spF8 τ1 τ2 τ3 τ4 τ5 τ6 τ7 τ8 pre φ f (us ++ []) H1 Q E
    rw [List.append_nil]
    exact ⟨x1, x2, x3, x4, x5, x6, x7, x8, Hv1, g1.vis, rs, hp, fun v Hv2 H2 g2 r2 => k _ _ _ (g1.trans g2) r2⟩
theorem sm_meth8 {α1 : Type} {α2 : Type} {α3 : Type} {α4 : Type} {α5 : Type} {α6 : Type} {α7 : Type} {α8 : Type} {C : Addr} {sch : α1 → List (Str × As)} {τ2 : Ty α2} {τ3 : Ty α3} {τ4 : Ty α4} {τ5 : Ty α5} {τ6 : Ty α6} {τ7 : Ty α7} {τ8 : Ty α8} {pre : α1 → α2 → α3 → α4 → α5 → α6 → α7 → α8 → Prop} {f : α1 → α2 → α3 → α4 → α5 → α6 → α7 → α8 → γ} {m : Str} {x1 : α1} {x2 : α2} {x3 : α3} {x4 : α4} {x5 : α5} {x6 : α6} {x7 : α7} {x8 : α8} {ta : TE} {t : TA} (h : Sm B Γ ta (tObj C sch) x1) (ns : List Str) (hm : ixOf ns m = none) (hns : (sch x1).map (·.1) = ns) (ha : SmA B Γ t [⟨τ2, x2⟩, ⟨τ3, x3⟩, ⟨τ4, x4⟩, ⟨τ5, x5⟩, ⟨τ6, x6⟩, ⟨τ7, x7⟩, ⟨τ8, x8⟩]) (hp : pre x1 x2 x3 x4 x5 x6 x7 x8) : Sm B Γ (tMeth C m (spF8 (tObj C sch) τ2 τ3 τ4 τ5 τ6 τ7 τ8 pre φ f) [] E ta t) φ (f x1 x2 x3 x4 x5 x6 x7 x8) := fun σ Hv H w Q k =>
  h σ Hv H w _ fun v Hv1 H1 g1 rv => by
    have rv' := rv
    obtain ⟨a, dx, fs, ev, h1, r1⟩ := rv
    refine ⟨a, dx, fs, ev, g1.vis _ _ h1, r1.none (by rw [hns]; exact hm), ha σ Hv1 H1 (w.grow g1) _ fun us Hv2 H2 g2 rs => ?_⟩
    show spF8 (tObj C sch) τ2 τ3 τ4 τ5 τ6 τ7 τ8 pre φ f (v :: (us ++ [])) H2 Q E
    rw [List.append_nil]
    exact ⟨x1, x2, x3, x4, x5, x6, x7, x8, Hv2, g2.vis, .cons ((tObj C sch).mono g2.v rv') rs, hp, fun v Hv3 H3 g3 r3 => k _ _ _ ((g1.trans g2).trans g3) r3⟩
def spO8 {α1 : Type} {α2 : Type} {α3 : Type} {α4 : Type} {α5 : Type} {α6 : Type} {α7 : Type} {α8 : Type} (τ1 : Ty α1) (τ2 : Ty α2) (τ3 : Ty α3) (τ4 : Ty α4) (τ5 : Ty α5) (τ6 : Ty α6) (τ7 : Ty α7) (τ8 : Ty α8) (pre : α1 → α2 → α3 → α4 → α5 → α6 → α7 → α8 → Prop) (φ : Ty γ) (f : α1 → α2 → α3 → α4 → α5 → α6 → α7 → α8 → List γ) : Sp := fun vs H Q _ => ∃ (x1 : α1) (x2 : α2) (x3 : α3) (x4 : α4) (x5 : α5) (x6 : α6) (x7 : α7) (x8 : α8), ∃ Hv, Same Hv H ∧ Reps Hv vs [⟨τ1, x1⟩, ⟨τ2, x2⟩, ⟨τ3, x3⟩, ⟨τ4, x4⟩, ⟨τ5, x5⟩, ⟨τ6, x6⟩, ⟨τ7, x7⟩, ⟨τ8, x8⟩] ∧ pre x1 x2 x3 x4 x5 x6 x7 x8 ∧ ∀ l us Hv' H', Grow Hv H Hv' H' → H l = none → H' l = some (.lst us) → Hv' l = none → Paired (φ.rep Hv') us (f x1 x2 x3 x4 x5 x6 x7 x8) → Q (.ref l) H'
theorem spO8_len {α1 : Type} {α2 : Type} {α3 : Type} {α4 : Type} {α5 : Type} {α6 : Type} {α7 : Type} {α8 : Type} {τ1 : Ty α1} {τ2 : Ty α2} {τ3 : Ty α3} {τ4 : Ty α4} {τ5 : Ty α5} {τ6 : Ty α6} {τ7 : Ty α7} {τ8 : Ty α8} {pre : α1 → α2 → α3 → α4 → α5 → α6 → α7 → α8 → Prop} {f : α1 → α2 → α3 → α4 → α5 → α6 → α7 → α8 → List γ} (h : spO8 τ1 τ2 τ3 τ4 τ5 τ6 τ7 τ8 pre φ f vs H Q E) : vs.length = 8 := by
  obtain ⟨_, _, _, _, _, _, _, _, _, _, r, _⟩ := h
  exact r.len
theorem spO8_body {α1 : Type} {α2 : Type} {α3 : Type} {α4 : Type} {α5 : Type} {α6 : Type} {α7 : Type} {α8 : Type} {τ1 : Ty α1} {τ2 : Ty α2} {τ3 : Ty α3} {τ4 : Ty α4} {τ5 : Ty α5} {τ6 : Ty α6} {τ7 : Ty α7} {τ8 : Ty α8} {pre : α1 → α2 → α3 → α4 → α5 → α6 → α7 → α8 → Prop} {f : α1 → α2 → α3 → α4 → α5 → α6 → α7 → α8 → List γ} {N : List Str} {t : TS} (hl : 8 ≤ N.length) (h : spO8 τ1 τ2 τ3 τ4 τ5 τ6 τ7 τ8 pre φ f vs H Q E) (hb : ∀ B0 : Bs, B0.n = N.length → ∀ (x1 : α1) (x2 : α2) (x3 : α3) (x4 : α4) (x5 : α5) (x6 : α6) (x7 : α7) (x8 : α8), pre x1 x2 x3 x4 x5 x6 x7 x8 → RtO B0 φ (f x1 x2 x3 x4 x5 x6 x7 x8) Q → G B0 t [(0, .fz τ1 x1), (1, .fz τ2 x2), (2, .fz τ3 x3), (3, .fz τ4 x4), (4, .fz τ5 x5), (5, .fz τ6 x6), (6, .fz τ7 x7), (7, .fz τ8 x8)] { nx := fun _ H' => Q .non H', rt := Q }) : t { nx := fun _ H' => Q .non H', rt := Q } (L2.start N vs) H := by
  obtain ⟨x1, x2, x3, x4, x5, x6, x7, x8, Hv, vis, rs, p, k⟩ := h
  exact hb ⟨H, Hv, fun _ => False, N.length⟩ rfl x1 x2 x3 x4 x5 x6 x7 x8 p ⟨fun _ z => z, k⟩ _ _ _ (wd_start vis rs hl)
theorem smo_call8 {α1 : Type} {α2 : Type} {α3 : Type} {α4 : Type} {α5 : Type} {α6 : Type} {α7 : Type} {α8 : Type} {τ1 : Ty α1} {τ2 : Ty α2} {τ3 : Ty α3} {τ4 : Ty α4} {τ5 : Ty α5} {τ6 : Ty α6} {τ7 : Ty α7} {τ8 : Ty α8} {pre : α1 → α2 → α3 → α4 → α5 → α6 → α7 → α8 → Prop} {f : α1 → α2 → α3 → α4 → α5 → α6 → α7 → α8 → List γ} {x1 : α1} {x2 : α2} {x3 : α3} {x4 : α4} {x5 : α5} {x6 : α6} {x7 : α7} {x8 : α8} {t : TA} (ha : SmA B Γ t [⟨τ1, x1⟩, ⟨τ2, x2⟩, ⟨τ3, x3⟩, ⟨τ4, x4⟩, ⟨τ5, x5⟩, ⟨τ6, x6⟩, ⟨τ7, x7⟩, ⟨τ8, x8⟩]) (hp : pre x1 x2 x3 x4 x5 x6 x7 x8) : SmO B Γ (tCall (spO8 τ1 τ2 τ3 τ4 τ5 τ6 τ7 τ8 pre φ f) [] E t) φ (f x1 x2 x3 x4 x5 x6 x7 x8) := fun σ Hv H w Q k =>
  ha σ Hv H w _ fun us Hv1 H1 g1 rs => by
    show spO8 τ1 τ2 τ3 τ4 τ5 τ6 τ7 τ8 pre φ f (us ++ []) H1 Q E
    rw [List.append_nil]
    exact ⟨x1, x2, x3, x4, x5, x6, x7, x8, Hv1, g1.vis, rs, hp, fun l us Hv2 H2 g2 e0 e1 e2 r2 => k _ _ _ _ (g1.trans g2) (Same.free g1.s e0) e1 e2 r2⟩
theorem smo_meth8 {α1 : Type} {α2 : Type} {α3 : Type} {α4 : Type} {α5 : Type} {α6 : Type} {α7 : Type} {α8 : Type} {C : Addr} {sch : α1 → List (Str × As)} {τ2 : Ty α2} {τ3 : Ty α3} {τ4 : Ty α4} {τ5 : Ty α5} {τ6 : Ty α6} {τ7 : Ty α7} {τ8 : Ty α8} {pre : α1 → α2 → α3 → α4 → α5 → α6 → α7 → α8 → Prop} {f : α1 → α2 → α3 → α4 → α5 → α6 → α7 → α8 → List γ} {m : Str} {x1 : α1} {x2 : α2} {x3 : α3} {x4 : α4} {x5 : α5} {x6 : α6} {x7 : α7} {x8 : α8} {ta : TE} {t : TA} (h : Sm B Γ ta (tObj C sch) x1) (ns : List Str) (hm : ixOf ns m = none) (hns : (sch x1).map (·.1) = ns) (ha : SmA B Γ t [⟨τ2, x2⟩, ⟨τ3, x3⟩, ⟨τ4, x4⟩, ⟨τ5, x5⟩, ⟨τ6, x6⟩, ⟨τ7, x7⟩, ⟨τ8, x8⟩]) (hp : pre x1 x2 x3 x4 x5 x6 x7 x8) : SmO B Γ (tMeth C m (spO8 (tObj C sch) τ2 τ3 τ4 τ5 τ6 τ7 τ8 pre φ f) [] E ta t) φ (f x1 x2 x3 x4 x5 x6 x7 x8) := fun σ Hv H w Q k =>
  h σ Hv H w _ fun v Hv1 H1 g1 rv => by
    have rv' := rv
    obtain ⟨a, dx, fs, ev, h1, r1⟩ := rv
    refine ⟨a, dx, fs, ev, g1.vis _ _ h1, r1.none (by rw [hns]; exact hm), ha σ Hv1 H1 (w.grow g1) _ fun us Hv2 H2 g2 rs => ?_⟩
    show spO8 (tObj C sch) τ2 τ3 τ4 τ5 τ6 τ7 τ8 pre φ f (v :: (us ++ [])) H2 Q E
    rw [List.append_nil]
    exact ⟨x1, x2, x3, x4, x5, x6, x7, x8, Hv2, g2.vis, .cons ((tObj C sch).mono g2.v rv') rs, hp, fun l us Hv3 H3 g3 e0 e1 e2 r3 => k _ _ _ _ ((g1.trans g2).trans g3) (Same.free (g1.trans g2).s e0) e1 e2 r3⟩
end
end VC

set_option Elab.async false
set_option maxRecDepth 100000
set_option maxHeartbeats 4000000
namespace VC
open PySem PySem.Spec L2
section
variable {B : Bs} {Γ : Cxt} {α β : Type} {τ : Ty α} {υ : Ty β} {x : α} {y : β} {K : PySem.W.Frag}
/-! ### slices -/
theorem sIx_pos {n d : Nat} {v : Int} (h : 0 ≤ v) : HT.sIx n d (some v) = min v.toNat n := by
  show (if v < 0 then (v + (n : Int)).toNat else min v.toNat n) = _
  rw [if_neg (by omega)]
theorem take_min {xs : List α} {k n : Nat} (h : n = xs.length) : xs.take (min k n) = xs.take k := by
  subst h
  rw [← List.take_take, List.take_length]
theorem cut_lo {xs : List V} {i : Int} (h : 0 ≤ i) : cutV xs (some i) none = xs.drop i.toNat := by
  unfold cutV
  rw [sIx_pos h, HT.sIx_none]
  by_cases c : i.toNat ≤ xs.length
  · rw [Nat.min_eq_left c, List.take_of_length_le]
    rw [List.length_drop]
    omega
  · rw [Nat.min_eq_right (by omega), List.drop_of_length_le (by omega), List.drop_of_length_le (i := i.toNat) (by omega)]
    simp
theorem cut_hi {xs : List V} {j : Int} (h : 0 ≤ j) : cutV xs none (some j) = xs.take j.toNat := by
  unfold cutV
  rw [sIx_pos h, HT.sIx_none, List.drop_zero, Nat.sub_zero, take_min rfl]
theorem cut_both {xs : List V} {i j : Int} (h : 0 ≤ i) (h' : 0 ≤ j) : cutV xs (some i) (some j) = (xs.take j.toNat).drop i.toNat := by
  unfold cutV
  rw [sIx_pos h, sIx_pos h']
  apply List.ext_getElem?
  intro k
  rw [List.getElem?_take, List.getElem?_drop, List.getElem?_drop, List.getElem?_take]
  by_cases c : i.toNat ≤ xs.length
  · have m : min i.toNat xs.length = i.toNat := Nat.min_eq_left c
    rw [m]
    by_cases d : i.toNat + k < j.toNat
    · rw [if_pos d]
      by_cases e : i.toNat + k < xs.length
      · rw [if_pos (by omega)]
      · rw [List.getElem?_eq_none (Nat.le_of_not_lt e)]
        simp
    · rw [if_neg d, if_neg (by omega)]
  · have m : min i.toNat xs.length = xs.length := Nat.min_eq_right (by omega)
    rw [m, List.getElem?_eq_none (l := xs) (i := i.toNat + k) (by omega), List.getElem?_eq_none (l := xs) (i := xs.length + k) (by omega)]
    simp
theorem cut_all {xs : List V} : cutV xs none none = xs := by
  unfold cutV
  rw [HT.sIx_none, HT.sIx_none]
  simp
theorem smo_sl10 {t u : TE} {xs : List α} {i : Int} (h : SmL B Γ t τ xs) (h' : Sm B Γ u tInt i) (h0 : 0 ≤ i) : SmO B Γ (tSl (rSlL K) t (tPart u) tNoPart) τ (xs.drop i.toNat) := fun σ Hv H w Q k =>
  h σ Hv H w _ fun a vs Hv1 H1 g1 e1 r1 => h' σ Hv1 H1 (w.grow g1) _ fun v Hv2 H2 g2 r2 => by
    cases r2
    refine ⟨i, rfl, a, vs, rfl, SqL.of (g2.s _ _ e1), fun p hp => ?_⟩
    rw [cut_lo h0]
    exact k p _ Hv2 _ ((g1.trans g2).trans (Grow.newO g2.vis hp)) (Same.free (g1.trans g2).s hp) upd_same (Same.free g2.vis hp) (paired_drop _ (Paired.up g2.v r1))
theorem smo_sl01 {t u : TE} {xs : List α} {i : Int} (h : SmL B Γ t τ xs) (h' : Sm B Γ u tInt i) (h0 : 0 ≤ i) : SmO B Γ (tSl (rSlL K) t tNoPart (tPart u)) τ (xs.take i.toNat) := fun σ Hv H w Q k =>
  h σ Hv H w _ fun a vs Hv1 H1 g1 e1 r1 => h' σ Hv1 H1 (w.grow g1) _ fun v Hv2 H2 g2 r2 => by
    cases r2
    refine ⟨i, rfl, a, vs, rfl, SqL.of (g2.s _ _ e1), fun p hp => ?_⟩
    rw [cut_hi h0]
    exact k p _ Hv2 _ ((g1.trans g2).trans (Grow.newO g2.vis hp)) (Same.free (g1.trans g2).s hp) upd_same (Same.free g2.vis hp) (paired_take _ (Paired.up g2.v r1))
theorem smo_sl11 {t u u' : TE} {xs : List α} {i j : Int} (h : SmL B Γ t τ xs) (h' : Sm B Γ u tInt i) (h'' : Sm B Γ u' tInt j) (h0 : 0 ≤ i ∧ 0 ≤ j) : SmO B Γ (tSl (rSlL K) t (tPart u) (tPart u')) τ ((xs.take j.toNat).drop i.toNat) := fun σ Hv H w Q k =>
  h σ Hv H w _ fun a vs Hv1 H1 g1 e1 r1 => h' σ Hv1 H1 (w.grow g1) _ fun v Hv2 H2 g2 r2 => by
    cases r2
    refine ⟨i, rfl, h'' σ Hv2 H2 ((w.grow g1).grow g2) _ fun v Hv3 H3 g3 r3 => ?_⟩
    cases r3
    refine ⟨j, rfl, a, vs, rfl, SqL.of (g3.s _ _ (g2.s _ _ e1)), fun p hp => ?_⟩
    rw [cut_both h0.1 h0.2]
    have gg := (g1.trans g2).trans g3
    exact k p _ Hv3 _ (gg.trans (Grow.newO g3.vis hp)) (Same.free gg.s hp) upd_same (Same.free g3.vis hp) (paired_drop _ (paired_take _ (Paired.up (Same.trans g2.v g3.v) r1)))
theorem smo_sl00 {t : TE} {xs : List α} (h : SmL B Γ t τ xs) : SmO B Γ (tSl (rSlL K) t tNoPart tNoPart) τ xs := fun σ Hv H w Q k =>
  h σ Hv H w _ fun a vs Hv1 H1 g1 e1 r1 => by
    refine ⟨a, vs, rfl, SqL.of e1, fun p hp => ?_⟩
    rw [cut_all]
    exact k p _ Hv1 _ (g1.trans (Grow.newO g1.vis hp)) (Same.free g1.s hp) upd_same (Same.free g1.vis hp) r1
theorem smo_slS10 {t u : TE} {ns : List Int} {i : Int} (h : Sm B Γ t (tScr K) ns) (h' : Sm B Γ u tInt i) (h0 : 0 ≤ i) : SmO B Γ (tSl (rSlL K) t (tPart u) tNoPart) tInt (ns.drop i.toNat) := fun σ Hv H w Q k =>
  h σ Hv H w _ fun v Hv1 H1 g1 ⟨a, ev, e1⟩ => h' σ Hv1 H1 (w.grow g1) _ fun v' Hv2 H2 g2 r2 => by
    cases r2
    subst ev
    refine ⟨i, rfl, a, ns.map V.int, rfl, Same.seq g2.vis (Same.seq g2.v e1), fun p hp => ?_⟩
    rw [cut_lo h0, ← List.map_drop]
    exact k p _ Hv2 _ ((g1.trans g2).trans (Grow.newO g2.vis hp)) (Same.free (g1.trans g2).s hp) upd_same (Same.free g2.vis hp) int_paired
theorem smo_slS01 {t u : TE} {ns : List Int} {i : Int} (h : Sm B Γ t (tScr K) ns) (h' : Sm B Γ u tInt i) (h0 : 0 ≤ i) : SmO B Γ (tSl (rSlL K) t tNoPart (tPart u)) tInt (ns.take i.toNat) := fun σ Hv H w Q k =>
  h σ Hv H w _ fun v Hv1 H1 g1 ⟨a, ev, e1⟩ => h' σ Hv1 H1 (w.grow g1) _ fun v' Hv2 H2 g2 r2 => by
    cases r2
    subst ev
    refine ⟨i, rfl, a, ns.map V.int, rfl, Same.seq g2.vis (Same.seq g2.v e1), fun p hp => ?_⟩
    rw [cut_hi h0, ← List.map_take]
    exact k p _ Hv2 _ ((g1.trans g2).trans (Grow.newO g2.vis hp)) (Same.free (g1.trans g2).s hp) upd_same (Same.free g2.vis hp) int_paired
theorem smo_slS11 {t u u' : TE} {ns : List Int} {i j : Int} (h : Sm B Γ t (tScr K) ns) (h' : Sm B Γ u tInt i) (h'' : Sm B Γ u' tInt j) (h0 : 0 ≤ i ∧ 0 ≤ j) : SmO B Γ (tSl (rSlL K) t (tPart u) (tPart u')) tInt ((ns.take j.toNat).drop i.toNat) := fun σ Hv H w Q k =>
  h σ Hv H w _ fun v Hv1 H1 g1 ⟨a, ev, e1⟩ => h' σ Hv1 H1 (w.grow g1) _ fun v' Hv2 H2 g2 r2 => by
    cases r2
    subst ev
    refine ⟨i, rfl, h'' σ Hv2 H2 ((w.grow g1).grow g2) _ fun v Hv3 H3 g3 r3 => ?_⟩
    cases r3
    refine ⟨j, rfl, a, ns.map V.int, rfl, Same.seq g3.vis (Same.seq g3.v (Same.seq g2.v e1)), fun p hp => ?_⟩
    rw [cut_both h0.1 h0.2, ← List.map_take, ← List.map_drop]
    have gg := (g1.trans g2).trans g3
    exact k p _ Hv3 _ (gg.trans (Grow.newO g3.vis hp)) (Same.free gg.s hp) upd_same (Same.free g3.vis hp) int_paired

/-! ### equality of data -/
/-- values of this type are data, and equal data are equal values -/
structure EqT (K : PySem.W.Frag) {α : Type} [DecidableEq α] (τ : Ty α) (n : Nat) where
  dat : α → PyData
  at_ : ∀ {H v x}, τ.rep H v x → Dp K H v (dat x)
  lay : ∀ x, (dat x).canLay0 = true
  dep : ∀ x, (dat x).depth ≤ n
  eqv : ∀ x y, PyData.eqv (dat x) (dat y) = decide (x = y)
def eq_int : EqT K tInt 0 := ⟨.int, fun {H v x} h => by cases h; exact .int x, fun _ => by simp [PyData.canLay0], fun _ => by simp [PyData.depth], fun x y => by
  show (x == y) = _
  by_cases e : x = y <;> simp [e]⟩
def eq_bool : EqT K tBool 0 := ⟨.bool, fun {H v x} h => by cases h; exact .bl x, fun _ => by simp [PyData.canLay0], fun _ => by simp [PyData.depth], fun x y => by
  show (x == y) = _
  by_cases e : x = y <;> simp [e]⟩
section
variable [DecidableEq α] [DecidableEq β] {n m : Nat}
theorem EqT.all (E : EqT K τ n) {H : Hp} : ∀ {vs : List V} {xs : List α}, Paired (τ.rep H) vs xs → DpAll K H vs (xs.map E.dat)
  | _, _, .nil => .nil
  | _, _, .cons r t => .cons (E.at_ r) (EqT.all E t)
theorem EqT.layAll (E : EqT K τ n) : ∀ xs : List α, PyData.canLayAll0 (xs.map E.dat) = true
  | [] => by simp [PyData.canLayAll0]
  | x :: xs => by simp [PyData.canLayAll0, E.lay x, EqT.layAll E xs]
theorem EqT.depAll (E : EqT K τ n) : ∀ xs : List α, PyData.depthAll (xs.map E.dat) ≤ n
  | [] => by simp [PyData.depthAll]
  | x :: xs => by
    have h1 := E.dep x
    have h2 := EqT.depAll E xs
    simp only [List.map_cons, PyData.depthAll]
    omega
theorem EqT.eqAll (E : EqT K τ n) : ∀ xs ys : List α, PyData.eqvAll (xs.map E.dat) (ys.map E.dat) = decide (xs = ys)
  | [], [] => by simp [PyData.eqvAll]
  | [], y :: ys => by simp [PyData.eqvAll]
  | x :: xs, [] => by simp [PyData.eqvAll]
  | x :: xs, y :: ys => by
    simp only [List.map_cons, PyData.eqvAll, E.eqv x y, EqT.eqAll E xs ys]
    by_cases e : x = y <;> by_cases e' : xs = ys <;> simp [e, e']
def eq_list (E : EqT K τ n) : EqT K (tList τ) (n + 1) := ⟨fun xs => .list (xs.map E.dat), fun {H v x} ⟨a, vs, e, h, r⟩ => by subst e; exact .lst (SqL.of h) (E.all r), fun x => by simp only [PyData.canLay0]; exact E.layAll x,
  fun x => by simp only [PyData.depth]; exact Nat.succ_le_succ (E.depAll x), fun x y => by simp only [PyData.eqv]; exact E.eqAll x y⟩
def eq_tup (E : EqT K τ n) (F : EqT K υ m) : EqT K (tTup2 τ υ) (max n m + 1) := ⟨fun p => .tuple [E.dat p.1, F.dat p.2], fun {H v x} ⟨a, v1, v2, e, h, r1, r2⟩ => by subst e; exact .tup (SqT.of h) (.cons (E.at_ r1) (.cons (F.at_ r2) .nil)),
  fun x => by simp [PyData.canLay0, PyData.canLayAll0, E.lay, F.lay], fun x => by
    have h1 := E.dep x.1
    have h2 := F.dep x.2
    simp only [PyData.depth, PyData.depthAll]
    omega, fun x y => by
    simp only [PyData.eqv, PyData.eqvAll, E.eqv, F.eqv]
    obtain ⟨x1, x2⟩ := x
    obtain ⟨y1, y2⟩ := y
    by_cases e : x1 = y1 <;> by_cases e' : x2 = y2 <;> simp [e, e']⟩
theorem EqT.shp (E : EqT K τ n) (hn : n ≤ 64) (x : α) : SeqAt.shaped (E.dat x) = true := by
  unfold SeqAt.shaped
  rw [E.lay x, Bool.true_and, decide_eq_true_iff]
  exact Nat.le_trans (E.dep x) hn
theorem sm_eqL {t u : TE} {xs ys : List α} (E : EqT K τ n) (hn : n + 1 ≤ 64) (h : SmL B Γ t τ xs) (h' : SmL B Γ u τ ys) : Sm B Γ (tOp (rEqD K) t u) tBool (decide (xs = ys)) := fun σ Hv H w Q k =>
  h σ Hv H w _ fun a vs Hv1 H1 g1 e1 r1 => h' σ Hv1 H1 (w.grow g1) _ fun b us Hv2 H2 g2 e2 r2 => by
    have d1 : Dp K H2 (.ref a) (.list (xs.map E.dat)) := .lst (SqL.of (g2.s _ _ e1)) (E.all (Paired.up g2.vis (Paired.up g2.v r1)))
    have d2 : Dp K H2 (.ref b) (.list (ys.map E.dat)) := .lst (SqL.of e2) (E.all (Paired.up g2.vis r2))
    exact ⟨_, _, d1, d2, (eq_list E).shp hn xs, (eq_list E).shp hn ys, k _ _ _ (g1.trans g2) (congrArg V.bl ((eq_list E).eqv xs ys))⟩
theorem sm_neL {t u : TE} {xs ys : List α} (E : EqT K τ n) (hn : n + 1 ≤ 64) (h : SmL B Γ t τ xs) (h' : SmL B Γ u τ ys) : Sm B Γ (tOp (rNeD K) t u) tBool (!decide (xs = ys)) := fun σ Hv H w Q k =>
  h σ Hv H w _ fun a vs Hv1 H1 g1 e1 r1 => h' σ Hv1 H1 (w.grow g1) _ fun b us Hv2 H2 g2 e2 r2 => by
    have d1 : Dp K H2 (.ref a) (.list (xs.map E.dat)) := .lst (SqL.of (g2.s _ _ e1)) (E.all (Paired.up g2.vis (Paired.up g2.v r1)))
    have d2 : Dp K H2 (.ref b) (.list (ys.map E.dat)) := .lst (SqL.of e2) (E.all (Paired.up g2.vis r2))
    exact ⟨_, _, d1, d2, (eq_list E).shp hn xs, (eq_list E).shp hn ys, k _ _ _ (g1.trans g2) (congrArg V.bl (congrArg _ ((eq_list E).eqv xs ys)))⟩
theorem sm_eqT {t u : TE} {x y : α} (E : EqT K τ n) (hn : n ≤ 64) (h : Sm B Γ t τ x) (h' : Sm B Γ u τ y) : Sm B Γ (tOp (rEqD K) t u) tBool (decide (x = y)) := fun σ Hv H w Q k =>
  h σ Hv H w _ fun v Hv1 H1 g1 r1 => h' σ Hv1 H1 (w.grow g1) _ fun v' Hv2 H2 g2 r2 =>
    ⟨_, _, E.at_ (τ.mono g2.vis (τ.mono g2.v r1)), E.at_ (τ.mono g2.vis r2), E.shp hn x, E.shp hn y, k _ _ _ (g1.trans g2) (congrArg V.bl (E.eqv x y))⟩
theorem sm_neT {t u : TE} {x y : α} (E : EqT K τ n) (hn : n ≤ 64) (h : Sm B Γ t τ x) (h' : Sm B Γ u τ y) : Sm B Γ (tOp (rNeD K) t u) tBool (!decide (x = y)) := fun σ Hv H w Q k =>
  h σ Hv H w _ fun v Hv1 H1 g1 r1 => h' σ Hv1 H1 (w.grow g1) _ fun v' Hv2 H2 g2 r2 =>
    ⟨_, _, E.at_ (τ.mono g2.vis (τ.mono g2.v r1)), E.at_ (τ.mono g2.vis r2), E.shp hn x, E.shp hn y, k _ _ _ (g1.trans g2) (congrArg V.bl (congrArg _ (E.eqv x y)))⟩
end
/-! ### in, for ints -/
theorem inV_int {x : Int} {xs : List Int} : inV (.int x) (xs.map V.int) = decide (x ∈ xs) := by
  induction xs with
  | nil => simp [inV]
  | cons y ys ih =>
    have e : inV (.int x) ((y :: ys).map V.int) = (eqV (.int y) (.int x) || inV (.int x) (ys.map V.int)) := by simp [inV]
    rw [e, ih]
    have e2 : eqV (.int y) (.int x) = decide (y = x) := by
      by_cases h : y = x <;> simp [eqV, h]
    rw [e2]
    by_cases h : y = x
    · simp [h]
    · have h' : ¬ x = y := fun q => h q.symm
      simp [h, h']
theorem flat_ints (xs : List Int) : (xs.map V.int).all flatV = true := by
  rw [List.all_map]
  exact List.all_eq_true.mpr fun _ _ => rfl
theorem sm_in {t u : TE} {x : Int} {xs : List Int} (h : Sm B Γ t tInt x) (h' : SmL B Γ u tInt xs) : Sm B Γ (tOp (rIn K false) t u) tBool (decide (x ∈ xs)) := fun σ Hv H w Q k =>
  h σ Hv H w _ fun v Hv1 H1 g1 r1 => h' σ Hv1 H1 (w.grow g1) _ fun b us Hv2 H2 g2 e2 r2 => by
    cases r1
    have e := paired_int r2
    subst e
    exact ⟨b, _, rfl, .inl (SqL.of e2), rfl, flat_ints xs, k _ _ _ (g1.trans g2) (congrArg V.bl inV_int)⟩
theorem sm_notIn {t u : TE} {x : Int} {xs : List Int} (h : Sm B Γ t tInt x) (h' : SmL B Γ u tInt xs) : Sm B Γ (tOp (rIn K true) t u) tBool (!decide (x ∈ xs)) := fun σ Hv H w Q k =>
  h σ Hv H w _ fun v Hv1 H1 g1 r1 => h' σ Hv1 H1 (w.grow g1) _ fun b us Hv2 H2 g2 e2 r2 => by
    cases r1
    have e := paired_int r2
    subst e
    exact ⟨b, _, rfl, .inl (SqL.of e2), rfl, flat_ints xs, k _ _ _ (g1.trans g2) (congrArg V.bl (show (!inV (V.int x) (xs.map V.int)) = !decide (x ∈ xs) by rw [inV_int]))⟩
/-! ### a list of one's own, lent to a call that gives a plain value -/
structure Sc (τ : Ty α) : Prop where
  run : ∀ {H H' : Hp} {v : V} {x : α}, τ.rep H v x → τ.rep H' v x
theorem sc_int : Sc tInt := ⟨fun h => h⟩
theorem sc_bool : Sc tBool := ⟨fun h => h⟩
theorem sc_str : Sc tStr := ⟨fun h => h⟩
theorem sc_non : Sc tNon := ⟨fun h => h⟩
theorem sc_opt (h : Sc τ) : Sc (tOpt τ) := ⟨fun {H H' v x} r => by
  cases x with
  | none => exact r
  | some y => exact ⟨r.1, h.run r.2⟩⟩
theorem Wd.lend {σ : L2.St} {Hv H : Hp} {xs : List α} {i : Nat} (w : Wd B Γ σ Hv H) (m : get i Γ = some (.cl τ xs)) : ∃ Hv', Wd B (VC.put i (.fz (tList τ) xs) Γ) σ Hv' H := by
  obtain ⟨Hv', _, w'⟩ := w.freeze i (get_mem m)
  exact ⟨Hv', w'⟩
theorem sm_lend {i : Nat} {t : TE} {xs : List α} (sc : Sc υ) (m : get i Γ = some (.cl τ xs)) (h : Sm B (put i (.fz (tList τ) xs) Γ) t υ y) : Sm B Γ t υ y := fun σ Hv H w Q k => by
  obtain ⟨Hv', w'⟩ := w.lend m
  exact h σ Hv' H w' Q fun v Hv2 H2 g r => k v Hv H2 ⟨g.s, Same.refl _, Same.trans w.vis g.s, fun _ _ z => z⟩ (sc.run r)
theorem paired_sc (sc : Sc υ) {H H' : Hp} : ∀ {vs : List V} {ys : List β}, Paired (υ.rep H) vs ys → Paired (υ.rep H') vs ys
  | _, _, .nil => .nil
  | _, _, .cons a t => .cons (sc.run a) (paired_sc sc t)
theorem smo_lend {i : Nat} {t : TE} {xs : List α} {ys : List β} (sc : Sc υ) (m : get i Γ = some (.cl τ xs)) (h : SmO B (put i (.fz (tList τ) xs) Γ) t υ ys) : SmO B Γ t υ ys := fun σ Hv H w Q k => by
  obtain ⟨Hv', w'⟩ := w.lend m
  exact h σ Hv' H w' Q fun l vs Hv2 H2 g e0 e1 e2 r => k l vs Hv H2 ⟨g.s, Same.refl _, Same.trans w.vis g.s, fun _ _ z => z⟩ e0 e1 (Same.free w.vis e0) (paired_sc sc r)
theorem sml_lend {i : Nat} {t : TE} {xs : List α} {ys : List β} (sc : Sc υ) (m : get i Γ = some (.cl τ xs)) (h : SmL B (put i (.fz (tList τ) xs) Γ) t υ ys) : SmL B Γ t υ ys := fun σ Hv H w Q k => by
  obtain ⟨Hv', w'⟩ := w.lend m
  exact h σ Hv' H w' Q fun a vs Hv2 H2 g e1 r => k a vs Hv H2 ⟨g.s, Same.refl _, Same.trans w.vis g.s, fun _ _ z => z⟩ e1 (paired_sc sc r)
/-! ### wide shifts, changes in place -/
theorem bits_lt {x : Int} {n : Nat} (h : x.natAbs < 2 ^ n) : Builtin.Int.intBits x ≤ n := by
  unfold Builtin.Int.intBits
  by_cases e : x = 0
  · subst e; simp
  · have e2 : (x == 0) = false := by simpa using e
    rw [e2, if_neg (by decide)]
    have := (Nat.log2_lt (n := x.natAbs) (k := n) (by omega)).mpr h
    omega
theorem shlW {i j : Int} (n : Nat) (h : i.natAbs < 2 ^ n) (h0 : 0 ≤ j) (h1 : (n : Int) + j ≤ 100000000) : CShl i j := by
  have := bits_lt h
  exact ⟨h0, by omega⟩
theorem ov_shlW {i j : Int} (c : CShl i j) : OpV (rI CShl fun i j => .int (i * 2 ^ j.toNat)) tInt tInt tInt i j (i * 2 ^ j.toNat) := ov_I c fun _ => rfl
theorem ip_xor {X : Cx} : PIp X .BitXor (ipI fun i j => Builtin.bitXor i j) := iop_xor
theorem ip_shr {X : Cx} : PIp X .RShift (rI (fun _ j => 0 ≤ j) fun i j => .int (i / 2 ^ j.toNat)) := iop_shr
variable {D : Ends}
theorem g_augShr {te : TE} {i : Nat} {u : TS} {a b : Int} (hi : i < B.n) (m : get i Γ = some (.fz tInt a)) (he : Sm B Γ te tInt b) (h0 : 0 ≤ b) (h : ∀ y, y = a / 2 ^ b.toNat → G B u (put i (.fz tInt y) Γ) D) :
    G B (tSeq (tAug i te (rI (fun _ j => 0 ≤ j) fun i j => .int (i / 2 ^ j.toNat))) u) Γ D := fun σ Hv H w => by
  obtain ⟨v, e, r⟩ := w.ent i _ (get_mem m)
  cases r
  refine ⟨_, e, he σ Hv H w _ fun v1 Hv1 H1 g1 r1 => ?_⟩
  cases r1
  exact ⟨a, b, rfl, rfl, h0, h _ rfl _ Hv1 H1 ((w.grow g1).put i hi rfl)⟩
theorem g_ifAug {c : TT} {te : TE} {u : TS} {g : Int → Int → Int} {i : Nat} {b : Bool} {x0 x : Int} (hi : i < B.n) (hc : SmT B Γ c b) (m : get i Γ = some (.fz tInt x0)) (he : b = true → Sm B Γ te tInt x) (h : ∀ y, y = (bif b then g x0 x else x0) → G B u (put i (.fz tInt y) Γ) D) :
    G B (tSeq (tIfS c (tSeq (tAug i te (ipI g)) tNext) tNext) u) Γ D := by
  refine g_if hc (fun e => ?_) fun e => ?_
  · refine g_assoc (g_aug hi m (he e) fun y hy => g_next (h y ?_))
    rw [e]
    exact hy
  · refine g_next fun σ Hv H w => ?_
    obtain ⟨v, e1, r⟩ := w.ent i _ (get_mem m)
    have w2 := w.put i hi r
    have : σ.set i (some v) = σ := by
      apply List.ext_getElem?
      intro j
      rw [getElem?_setN]
      by_cases hj : i = j
      · subst hj
        rw [if_pos rfl, if_pos (by rw [w.len]; exact hi), e1]
      · rw [if_neg hj]
    rw [this] at w2
    exact h _ (by rw [e]; rfl) σ Hv H w2
theorem ov_fdivW {i j : Int} (c : CDivW i j) : OpV (rI CDivW fun i j => .int (i / j)) tInt tInt tInt i j (i / j) := ov_I c fun _ => rfl
theorem divW {i j : Int} (n : Nat) (h0 : 0 < j) (h : j.natAbs < 2 ^ n) (hn : n ≤ 9000) : CDivW i j := by
  refine ⟨h0, ?_⟩
  have := (Nat.log2_lt (n := j.natAbs) (k := n) (by omega)).mpr h
  omega
end
end VC

set_option Elab.async false
set_option maxRecDepth 100000
set_option maxHeartbeats 4000000
namespace VC
open PySem PySem.Spec L2
section
variable {B B0 : Bs} {Γ : Cxt} {α β : Type} {τ : Ty α} {υ : Ty β} {x : α} {y : β} {K : PySem.W.Frag} {σ : L2.St} {Hv H : Hp} {D : Ends}
/-! ### objects while they are made -/
theorem FsRep.app {H : Hp} {fs : List (Str × V)} {as : List (Str × As)} {n : Str} {v : V} {a : As} (h : FsRep H fs as) (r : a.τ.rep H v a.x) (hn : ixOf (as.map (·.1)) n = Option.none) : FsRep H (putF n v fs) (as ++ [(n, a)]) := by
  induction h with
  | nil => exact .cons r .nil
  | cons q _ ih =>
    rename_i m u fs b as _
    have hnm : ¬ n = m := fun e => by
      subst e
      simp [ixOf] at hn
    have hn' : ixOf (as.map (·.1)) n = Option.none := by
      simp only [List.map_cons, ixOf, if_neg hnm] at hn
      cases e : ixOf (as.map (·.1)) n with
      | none => rfl
      | some j => rw [e] at hn; cases hn
    show FsRep H (if m = n then (m, v) :: fs else (m, u) :: putF n v fs) _
    rw [if_neg fun e => hnm e.symm]
    exact .cons q (ih hn')
theorem FsRep.len {H : Hp} {fs : List (Str × V)} {as : List (Str × As)} (h : FsRep H fs as) : fs.length = as.length := by
  induction h with
  | nil => rfl
  | cons _ _ ih => simp [ih]
theorem Wd.chgO {p dx C : Addr} {as as' : List (Str × As)} {fs' : List (Str × V)} (w : Wd B Γ σ Hv H) (i : Nat) (m : (i, .ob p dx C as) ∈ Γ) (r : FsRep Hv fs' as') : Wd B (VC.put i (.ob p dx C as') Γ) σ Hv (upd H p (.ins C dx fs')) := by
  obtain ⟨fs, hs, e2, e3, _⟩ := w.ent i _ m
  have nv : ∀ b o, Hv b = some o → b ≠ p := fun b o e q => by
    subst q
    rw [e3] at e
    cases e
  have nl := w.new i _ p m rfl hs
  refine ⟨w.len, fun b o e => ?_, fun b o n e => ?_, fun b n => ?_, w.v0, w.nw, fun j e m' => ?_, fun j e k m' c s => ?_, fun j k e f q m1 m2 c1 c2 n s1 s2 => ?_⟩
  · rw [upd_ne (nv b o e)]
    exact w.vis _ _ e
  · have hb : b ≠ p := fun q => by
      subst q
      rcases nl with z | z
      · rw [z] at e
        cases e
      · exact n z
    rw [upd_ne hb]
    exact w.s0 b o n e
  · by_cases hb : b = p
    · subst hb
      rw [upd_same]
      exact fun z => nomatch z
    · rw [upd_ne hb]
      exact w.a0 b n
  · rcases put_mem m' with ⟨rfl, rfl⟩ | ⟨hj, m'⟩
    · exact ⟨fs', hs, upd_same, e3, r⟩
    · have z := w.ent j e m'
      cases e with
      | fz => exact z
      | gh => exact z
      | cl τ' zs =>
        obtain ⟨k, us, h1, h2, h3, h4⟩ := z
        refine ⟨k, us, h1, ?_, h3, h4⟩
        rw [upd_ne fun q => w.dis i j _ _ p m m' rfl rfl (Ne.symm hj) hs (by rw [h1, q])]
        exact h2
      | ob k dx' C' bs =>
        obtain ⟨gs, h1, h2, h3, h4⟩ := z
        refine ⟨gs, h1, ?_, h3, h4⟩
        rw [upd_ne fun q => w.dis i j _ _ p m m' rfl rfl (Ne.symm hj) hs (by rw [h1, q])]
        exact h2
  · rcases put_mem m' with ⟨rfl, rfl⟩ | ⟨hj, m'⟩
    · exact w.new j _ k m rfl s
    · exact w.new j e k m' c s
  · rcases put_mem m1 with ⟨rfl, rfl⟩ | ⟨hj, mm⟩
    · rcases put_mem m2 with ⟨rfl, rfl⟩ | ⟨hk, m2⟩
      · exact n rfl
      · exact w.dis j k _ f q m m2 rfl c2 n s1 s2
    · rcases put_mem m2 with ⟨rfl, rfl⟩ | ⟨hk, m2⟩
      · exact w.dis j k e _ q mm m c1 rfl n s1 s2
      · exact w.dis j k e f q mm m2 c1 c2 n s1 s2
/-- self.f = e, f new -/
theorem g_fld {p dx C : Addr} {as : List (Str × As)} {te : TE} {f : Str} {i : Nat} {u : TS} (m : get i Γ = some (.ob p dx C as)) (ns : List Str) (hns : as.map (·.1) = ns) (hn : ixOf ns f = none) (c : Cls K C) (n : NoAttr K C f) (hl : as.length < 900) (he : Sm B Γ te τ x)
    (h : ∀ y, y = x → G B u (put i (.ob p dx C (as ++ [(f, ⟨τ, y⟩)])) Γ) D) : G B (tSeq (sFld K (tVar i) te f) u) Γ D := fun σ Hv H w =>
  he σ Hv H w _ fun v Hv1 H1 g1 r1 => by
    have w1 := w.grow g1
    obtain ⟨fs, e1, e2, e3, r⟩ := w1.ent i _ (get_mem m)
    refine ⟨_, e1, p, C, dx, fs, rfl, e2, c, n, by rw [r.len]; omega, ?_⟩
    exact h x rfl σ Hv1 _ (w1.chgO i (get_mem m) (r.app (a := ⟨τ, x⟩) r1 (by rw [hns]; exact hn)))
/-- self.f, while the object is made -/
theorem sm_fldO {p dx C : Addr} {as : List (Str × As)} {f : Str} {i : Nat} (m : get i Γ = some (.ob p dx C as)) (ns : List Str) (k : Nat) (hk : ixOf ns f = some k) (hns : as.map (·.1) = ns) (c : Cls K C) (n : NoAttr K C f) (e : as[k]? = some (f, ⟨υ, y⟩)) : Sm B Γ (tFld K (tVar i) f) υ y := fun σ Hv H w Q q => by
  obtain ⟨fs, e1, e2, e3, r⟩ := w.ent i _ (get_mem m)
  obtain ⟨u, h1, h2⟩ := r.get (by rw [hns]; exact hk) e
  exact ⟨_, e1, p, C, dx, fs, u, rfl, e2, c, n, h1, q _ _ _ (Grow.refl w.vis) h2⟩
/-- what an __init__ is to leave -/
structure RtI (B0 : Bs) (p dx C : Addr) (as : List (Str × As)) (Q : VK) : Prop where
  ow : ∀ b, B0.own b → b = p
  run : ∀ Hv' H' fs, (∀ b o, b ≠ p → B0.H0 b = some o → H' b = some o) → Same B0.Hv0 Hv' → Same Hv' H' → (∀ b, b ≠ p → B0.H0 b ≠ none → B0.Hv0 b = none → Hv' b = none) → H' p = some (.ins C dx fs) → Hv' p = none → FsRep Hv' fs as → Q .non H'
theorem g_endI {p dx C : Addr} {as bs : List (Str × As)} {Q : VK} (l : Le B0 B) (R : RtI B0 p dx C bs Q) (hn : D.nx = fun _ H' => Q .non H') (m : get 0 Γ = some (.ob p dx C as)) (e : as = bs) : G B tNext Γ D := fun σ Hv H w => by
  show D.nx σ H
  rw [hn]
  subst e
  have w' := w.down l
  obtain ⟨fs, e1, e2, e3, r⟩ := w'.ent 0 _ (get_mem m)
  exact R.run Hv H fs (fun b o hb e => w'.s0 b o (fun z => hb (R.ow b z)) e) w'.v0 w'.vis (fun b hb n z => w'.nw b (fun z => hb (R.ow b z)) n z) e2 e3 r
end
section
variable {B : Bs} {Γ : Cxt} {H : Hp} {vs : List V} {Q : VK} {E : XK} {K : PySem.W.Frag} {δ : Type} {C : Addr} {sch : δ → List (Str × As)}
def spI0   (pre : Prop) (C : Addr) (sch : δ → List (Str × As)) (f : δ) : Sp := fun vs H Q _ => ∃ (p dx : Addr) (us : List V) (Hv : Hp), vs = .ref p :: us ∧ H p = some (.ins C dx []) ∧ Hv p = none ∧ Same Hv H ∧ Reps Hv us [] ∧ pre ∧ ∀ Hv' H' fs, (∀ b o, b ≠ p → H b = some o → H' b = some o) → Same Hv Hv' → Same Hv' H' → (∀ b, b ≠ p → H b ≠ none → Hv b = none → Hv' b = none) → H' p = some (.ins C dx fs) → Hv' p = none → FsRep Hv' fs (sch (f)) → Q .non H'
theorem spI0_len   {pre : Prop} {f : δ} (h : spI0 pre C sch f vs H Q E) : vs.length = 1 := by
  obtain ⟨_, _, us, _, rfl, _, _, _, r, _⟩ := h
  exact congrArg (· + 1) r.len
theorem spI0_body   {pre : Prop} {f : δ} {N : List Str} {t : TS} (hl : 1 ≤ N.length) (h : spI0 pre C sch f vs H Q E) (hb : ∀ B0 : Bs, B0.n = N.length → ∀ p dx, pre → RtI B0 p dx C (sch (f)) Q → G B0 t [(0, .ob p dx C [])] { nx := fun _ H' => Q .non H', rt := Q }) : t { nx := fun _ H' => Q .non H', rt := Q } (L2.start N vs) H := by
  obtain ⟨p, dx, us, Hv, rfl, hp, hv, vis, rs, pr, k⟩ := h
  have hlen : us.length = 0 := rs.len
  refine hb ⟨H, Hv, (· = p), N.length⟩ rfl p dx  pr ⟨fun _ z => z, fun Hv' H' fs h1 h2 h3 h4 h5 h6 h7 => k Hv' H' fs h1 h2 h3 h4 h5 h6 h7⟩ _ Hv H ?_
  have hat : ∀ k v, us[k]? = some v → (L2.start N (V.ref p :: us))[1 + k]? = some (some v) := fun k v hk => by
    have hk' := (List.getElem?_eq_some_iff.mp hk).1
    unfold L2.start
    rw [List.getElem?_append_left (by simp; omega), Nat.add_comm, List.getElem?_map, List.getElem?_cons_succ, hk]
    rfl
  have h0 : (L2.start N (V.ref p :: us))[0]? = some (some (.ref p)) := rfl
  refine ⟨?_, vis, fun _ _ _ e => e, fun _ n => n, Same.refl _, fun _ _ _ z => z, fun i e m => ?_, fun i e l m c s => ?_, fun i j e f l m m' c c' n s s' => ?_⟩
  · unfold L2.start
    rw [List.length_append, List.length_map, List.length_replicate, List.length_cons]
    show us.length + 1 + (N.length - (us.length + 1)) = N.length
    omega
  · rcases List.mem_cons.mp m with q | m
    · cases q
      exact ⟨[], h0, hp, hv, .nil⟩
    · exact argC_at (i := 1) (as := []) rs hat i e m
  · rcases List.mem_cons.mp m with q | m
    · cases q
      rw [h0] at s
      cases s
      exact .inr rfl
    · rw [(argC_ge (as := []) (i := 1) m).2] at c
      cases c
  · rcases List.mem_cons.mp m with q | m
    · rcases List.mem_cons.mp m' with q' | m'
      · cases q
        cases q'
        exact n rfl
      · rw [(argC_ge (as := []) (i := 1) m').2] at c'
        cases c'
    · rw [(argC_ge (as := []) (i := 1) m).2] at c
      cases c
theorem sm_make0   {pre : Prop} {f : δ}  {t : TA} (ha : SmA B Γ t []) (hp : pre) : Sm B Γ (tMake C (spI0 pre C sch f) [] E t) (tObj C sch) (f) := fun σ Hv H w Q k =>
  ha σ Hv H w _ fun us Hv1 H1 g1 rs => fun x dx hx hdx ndx => by
    show spI0 pre C sch f (V.ref x :: (us ++ [])) _ _ E
    rw [List.append_nil]
    have vx := Same.free g1.vis hx
    have s0 : Same H1 (upd (upd H1 dx (.own x)) x (.ins C dx [])) := fun b o e => by
      rw [upd_ne (ne_of_none e hx), upd_ne (ne_of_none e hdx)]
      exact e
    refine ⟨x, dx, us, Hv1, rfl, upd_same, vx, Same.trans g1.vis s0, rs, hp, fun Hv' H' fs h1 h2 h3 h4 h5 h6 h7 => ⟨rfl, ?_⟩⟩
    have s1 := same_upd (o := .ins C dx fs) h6
    refine k (.ref x) (upd Hv' x (.ins C dx fs)) H' (g1.trans ⟨fun b o e => h1 b o (ne_of_none e hx) (s0 _ _ e), Same.trans h2 s1, fun b o e => ?_, fun b n z => ?_⟩) ⟨x, dx, fs, rfl, upd_same, h7.up s1⟩
    · by_cases hb : b = x
      · subst hb
        rw [upd_same] at e
        cases e
        exact h5
      · rw [upd_ne hb] at e
        exact h3 _ _ e
    · have hb : b ≠ x := fun q => n (by rw [q]; exact hx)
      rw [upd_ne hb]
      exact h4 b hb (Same.some_ne s0 n) z
def spI1 {α1 : Type} (τ1 : Ty α1) (pre : α1 → Prop) (C : Addr) (sch : δ → List (Str × As)) (f : α1 → δ) : Sp := fun vs H Q _ => ∃ (x1 : α1), ∃ (p dx : Addr) (us : List V) (Hv : Hp), vs = .ref p :: us ∧ H p = some (.ins C dx []) ∧ Hv p = none ∧ Same Hv H ∧ Reps Hv us [⟨τ1, x1⟩] ∧ pre x1 ∧ ∀ Hv' H' fs, (∀ b o, b ≠ p → H b = some o → H' b = some o) → Same Hv Hv' → Same Hv' H' → (∀ b, b ≠ p → H b ≠ none → Hv b = none → Hv' b = none) → H' p = some (.ins C dx fs) → Hv' p = none → FsRep Hv' fs (sch (f x1)) → Q .non H'
theorem spI1_len {α1 : Type} {τ1 : Ty α1} {pre : α1 → Prop} {f : α1 → δ} (h : spI1 τ1 pre C sch f vs H Q E) : vs.length = 2 := by
  obtain ⟨_, _, _, us, _, rfl, _, _, _, r, _⟩ := h
  exact congrArg (· + 1) r.len
theorem spI1_body {α1 : Type} {τ1 : Ty α1} {pre : α1 → Prop} {f : α1 → δ} {N : List Str} {t : TS} (hl : 2 ≤ N.length) (h : spI1 τ1 pre C sch f vs H Q E) (hb : ∀ B0 : Bs, B0.n = N.length → ∀ p dx, ∀ (x1 : α1), pre x1 → RtI B0 p dx C (sch (f x1)) Q → G B0 t [(0, .ob p dx C []), (1, .fz τ1 x1)] { nx := fun _ H' => Q .non H', rt := Q }) : t { nx := fun _ H' => Q .non H', rt := Q } (L2.start N vs) H := by
  obtain ⟨x1, p, dx, us, Hv, rfl, hp, hv, vis, rs, pr, k⟩ := h
  have hlen : us.length = 1 := rs.len
  refine hb ⟨H, Hv, (· = p), N.length⟩ rfl p dx x1 pr ⟨fun _ z => z, fun Hv' H' fs h1 h2 h3 h4 h5 h6 h7 => k Hv' H' fs h1 h2 h3 h4 h5 h6 h7⟩ _ Hv H ?_
  have hat : ∀ k v, us[k]? = some v → (L2.start N (V.ref p :: us))[1 + k]? = some (some v) := fun k v hk => by
    have hk' := (List.getElem?_eq_some_iff.mp hk).1
    unfold L2.start
    rw [List.getElem?_append_left (by simp; omega), Nat.add_comm, List.getElem?_map, List.getElem?_cons_succ, hk]
    rfl
  have h0 : (L2.start N (V.ref p :: us))[0]? = some (some (.ref p)) := rfl
  refine ⟨?_, vis, fun _ _ _ e => e, fun _ n => n, Same.refl _, fun _ _ _ z => z, fun i e m => ?_, fun i e l m c s => ?_, fun i j e f l m m' c c' n s s' => ?_⟩
  · unfold L2.start
    rw [List.length_append, List.length_map, List.length_replicate, List.length_cons]
    show us.length + 1 + (N.length - (us.length + 1)) = N.length
    omega
  · rcases List.mem_cons.mp m with q | m
    · cases q
      exact ⟨[], h0, hp, hv, .nil⟩
    · exact argC_at (i := 1) (as := [⟨τ1, x1⟩]) rs hat i e m
  · rcases List.mem_cons.mp m with q | m
    · cases q
      rw [h0] at s
      cases s
      exact .inr rfl
    · rw [(argC_ge (as := [⟨τ1, x1⟩]) (i := 1) m).2] at c
      cases c
  · rcases List.mem_cons.mp m with q | m
    · rcases List.mem_cons.mp m' with q' | m'
      · cases q
        cases q'
        exact n rfl
      · rw [(argC_ge (as := [⟨τ1, x1⟩]) (i := 1) m').2] at c'
        cases c'
    · rw [(argC_ge (as := [⟨τ1, x1⟩]) (i := 1) m).2] at c
      cases c
theorem sm_make1 {α1 : Type} {τ1 : Ty α1} {pre : α1 → Prop} {f : α1 → δ} {x1 : α1} {t : TA} (ha : SmA B Γ t [⟨τ1, x1⟩]) (hp : pre x1) : Sm B Γ (tMake C (spI1 τ1 pre C sch f) [] E t) (tObj C sch) (f x1) := fun σ Hv H w Q k =>
  ha σ Hv H w _ fun us Hv1 H1 g1 rs => fun x dx hx hdx ndx => by
    show spI1 τ1 pre C sch f (V.ref x :: (us ++ [])) _ _ E
    rw [List.append_nil]
    have vx := Same.free g1.vis hx
    have s0 : Same H1 (upd (upd H1 dx (.own x)) x (.ins C dx [])) := fun b o e => by
      rw [upd_ne (ne_of_none e hx), upd_ne (ne_of_none e hdx)]
      exact e
    refine ⟨x1, x, dx, us, Hv1, rfl, upd_same, vx, Same.trans g1.vis s0, rs, hp, fun Hv' H' fs h1 h2 h3 h4 h5 h6 h7 => ⟨rfl, ?_⟩⟩
    have s1 := same_upd (o := .ins C dx fs) h6
    refine k (.ref x) (upd Hv' x (.ins C dx fs)) H' (g1.trans ⟨fun b o e => h1 b o (ne_of_none e hx) (s0 _ _ e), Same.trans h2 s1, fun b o e => ?_, fun b n z => ?_⟩) ⟨x, dx, fs, rfl, upd_same, h7.up s1⟩
    · by_cases hb : b = x
      · subst hb
        rw [upd_same] at e
        cases e
        exact h5
      · rw [upd_ne hb] at e
        exact h3 _ _ e
    · have hb : b ≠ x := fun q => n (by rw [q]; exact hx)
      rw [upd_ne hb]
      exact h4 b hb (Same.some_ne s0 n) z
def spI2 {α1 : Type} {α2 : Type} (τ1 : Ty α1) (τ2 : Ty α2) (pre : α1 → α2 → Prop) (C : Addr) (sch : δ → List (Str × As)) (f : α1 → α2 → δ) : Sp := fun vs H Q _ => ∃ (x1 : α1) (x2 : α2), ∃ (p dx : Addr) (us : List V) (Hv : Hp), vs = .ref p :: us ∧ H p = some (.ins C dx []) ∧ Hv p = none ∧ Same Hv H ∧ Reps Hv us [⟨τ1, x1⟩, ⟨τ2, x2⟩] ∧ pre x1 x2 ∧ ∀ Hv' H' fs, (∀ b o, b ≠ p → H b = some o → H' b = some o) → Same Hv Hv' → Same Hv' H' → (∀ b, b ≠ p → H b ≠ none → Hv b = none → Hv' b = none) → H' p = some (.ins C dx fs) → Hv' p = none → FsRep Hv' fs (sch (f x1 x2)) → Q .non H'
theorem spI2_len {α1 : Type} {α2 : Type} {τ1 : Ty α1} {τ2 : Ty α2} {pre : α1 → α2 → Prop} {f : α1 → α2 → δ} (h : spI2 τ1 τ2 pre C sch f vs H Q E) : vs.length = 3 := by
  obtain ⟨_, _, _, _, us, _, rfl, _, _, _, r, _⟩ := h
  exact congrArg (· + 1) r.len
theorem spI2_body {α1 : Type} {α2 : Type} {τ1 : Ty α1} {τ2 : Ty α2} {pre : α1 → α2 → Prop} {f : α1 → α2 → δ} {N : List Str} {t : TS} (hl : 3 ≤ N.length) (h : spI2 τ1 τ2 pre C sch f vs H Q E) (hb : ∀ B0 : Bs, B0.n = N.length → ∀ p dx, ∀ (x1 : α1) (x2 : α2), pre x1 x2 → RtI B0 p dx C (sch (f x1 x2)) Q → G B0 t [(0, .ob p dx C []), (1, .fz τ1 x1), (2, .fz τ2 x2)] { nx := fun _ H' => Q .non H', rt := Q }) : t { nx := fun _ H' => Q .non H', rt := Q } (L2.start N vs) H := by
  obtain ⟨x1, x2, p, dx, us, Hv, rfl, hp, hv, vis, rs, pr, k⟩ := h
  have hlen : us.length = 2 := rs.len
  refine hb ⟨H, Hv, (· = p), N.length⟩ rfl p dx x1 x2 pr ⟨fun _ z => z, fun Hv' H' fs h1 h2 h3 h4 h5 h6 h7 => k Hv' H' fs h1 h2 h3 h4 h5 h6 h7⟩ _ Hv H ?_
  have hat : ∀ k v, us[k]? = some v → (L2.start N (V.ref p :: us))[1 + k]? = some (some v) := fun k v hk => by
    have hk' := (List.getElem?_eq_some_iff.mp hk).1
    unfold L2.start
    rw [List.getElem?_append_left (by simp; omega), Nat.add_comm, List.getElem?_map, List.getElem?_cons_succ, hk]
    rfl
  have h0 : (L2.start N (V.ref p :: us))[0]? = some (some (.ref p)) := rfl
  refine ⟨?_, vis, fun _ _ _ e => e, fun _ n => n, Same.refl _, fun _ _ _ z => z, fun i e m => ?_, fun i e l m c s => ?_, fun i j e f l m m' c c' n s s' => ?_⟩
  · unfold L2.start
    rw [List.length_append, List.length_map, List.length_replicate, List.length_cons]
    show us.length + 1 + (N.length - (us.length + 1)) = N.length
    omega
  · rcases List.mem_cons.mp m with q | m
    · cases q
      exact ⟨[], h0, hp, hv, .nil⟩
    · exact argC_at (i := 1) (as := [⟨τ1, x1⟩, ⟨τ2, x2⟩]) rs hat i e m
  · rcases List.mem_cons.mp m with q | m
    · cases q
      rw [h0] at s
      cases s
      exact .inr rfl
    · rw [(argC_ge (as := [⟨τ1, x1⟩, ⟨τ2, x2⟩]) (i := 1) m).2] at c
      cases c
  · rcases List.mem_cons.mp m with q | m
    · rcases List.mem_cons.mp m' with q' | m'
      · cases q
        cases q'
        exact n rfl
      · rw [(argC_ge (as := [⟨τ1, x1⟩, ⟨τ2, x2⟩]) (i := 1) m').2] at c'
        cases c'
    · rw [(argC_ge (as := [⟨τ1, x1⟩, ⟨τ2, x2⟩]) (i := 1) m).2] at c
      cases c
theorem sm_make2 {α1 : Type} {α2 : Type} {τ1 : Ty α1} {τ2 : Ty α2} {pre : α1 → α2 → Prop} {f : α1 → α2 → δ} {x1 : α1} {x2 : α2} {t : TA} (ha : SmA B Γ t [⟨τ1, x1⟩, ⟨τ2, x2⟩]) (hp : pre x1 x2) : Sm B Γ (tMake C (spI2 τ1 τ2 pre C sch f) [] E t) (tObj C sch) (f x1 x2) := fun σ Hv H w Q k =>
  ha σ Hv H w _ fun us Hv1 H1 g1 rs => fun x dx hx hdx ndx => by
    show spI2 τ1 τ2 pre C sch f (V.ref x :: (us ++ [])) _ _ E
    rw [List.append_nil]
    have vx := Same.free g1.vis hx
    have s0 : Same H1 (upd (upd H1 dx (.own x)) x (.ins C dx [])) := fun b o e => by
      rw [upd_ne (ne_of_none e hx), upd_ne (ne_of_none e hdx)]
      exact e
    refine ⟨x1, x2, x, dx, us, Hv1, rfl, upd_same, vx, Same.trans g1.vis s0, rs, hp, fun Hv' H' fs h1 h2 h3 h4 h5 h6 h7 => ⟨rfl, ?_⟩⟩
    have s1 := same_upd (o := .ins C dx fs) h6
    refine k (.ref x) (upd Hv' x (.ins C dx fs)) H' (g1.trans ⟨fun b o e => h1 b o (ne_of_none e hx) (s0 _ _ e), Same.trans h2 s1, fun b o e => ?_, fun b n z => ?_⟩) ⟨x, dx, fs, rfl, upd_same, h7.up s1⟩
    · by_cases hb : b = x
      · subst hb
        rw [upd_same] at e
        cases e
        exact h5
      · rw [upd_ne hb] at e
        exact h3 _ _ e
    · have hb : b ≠ x := fun q => n (by rw [q]; exact hx)
      rw [upd_ne hb]
      exact h4 b hb (Same.some_ne s0 n) z
def spI3 {α1 : Type} {α2 : Type} {α3 : Type} (τ1 : Ty α1) (τ2 : Ty α2) (τ3 : Ty α3) (pre : α1 → α2 → α3 → Prop) (C : Addr) (sch : δ → List (Str × As)) (f : α1 → α2 → α3 → δ) : Sp := fun vs H Q _ => ∃ (x1 : α1) (x2 : α2) (x3 : α3), ∃ (p dx : Addr) (us : List V) (Hv : Hp), vs = .ref p :: us ∧ H p = some (.ins C dx []) ∧ Hv p = none ∧ Same Hv H ∧ Reps Hv us [⟨τ1, x1⟩, ⟨τ2, x2⟩, ⟨τ3, x3⟩] ∧ pre x1 x2 x3 ∧ ∀ Hv' H' fs, (∀ b o, b ≠ p → H b = some o → H' b = some o) → Same Hv Hv' → Same Hv' H' → (∀ b, b ≠ p → H b ≠ none → Hv b = none → Hv' b = none) → H' p = some (.ins C dx fs) → Hv' p = none → FsRep Hv' fs (sch (f x1 x2 x3)) → Q .non H'
theorem spI3_len {α1 : Type} {α2 : Type} {α3 : Type} {τ1 : Ty α1} {τ2 : Ty α2} {τ3 : Ty α3} {pre : α1 → α2 → α3 → Prop} {f : α1 → α2 → α3 → δ} (h : spI3 τ1 τ2 τ3 pre C sch f vs H Q E) : vs.length = 4 := by
  obtain ⟨_, _, _, _, _, us, _, rfl, _, _, _, r, _⟩ := h
  exact congrArg (· + 1) r.len
theorem spI3_body {α1 : Type} {α2 : Type} {α3 : Type} {τ1 : Ty α1} {τ2 : Ty α2} {τ3 : Ty α3} {pre : α1 → α2 → α3 → Prop} {f : α1 → α2 → α3 → δ} {N : List Str} {t : TS} (hl : 4 ≤ N.length) (h : spI3 τ1 τ2 τ3 pre C sch f vs H Q E) (hb : ∀ B0 : Bs, B0.n = N.length → ∀ p dx, ∀ (x1 : α1) (x2 : α2) (x3 : α3), pre x1 x2 x3 → RtI B0 p dx C (sch (f x1 x2 x3)) Q → G B0 t [(0, .ob p dx C []), (1, .fz τ1 x1), (2, .fz τ2 x2), (3, .fz τ3 x3)] { nx := fun _ H' => Q .non H', rt := Q }) : t { nx := fun _ H' => Q .non H', rt := Q } (L2.start N vs) H := by
  obtain ⟨x1, x2, x3, p, dx, us, Hv, rfl, hp, hv, vis, rs, pr, k⟩ := h
  have hlen : us.length = 3 := rs.len
  refine hb ⟨H, Hv, (· = p), N.length⟩ rfl p dx x1 x2 x3 pr ⟨fun _ z => z, fun Hv' H' fs h1 h2 h3 h4 h5 h6 h7 => k Hv' H' fs h1 h2 h3 h4 h5 h6 h7⟩ _ Hv H ?_
  have hat : ∀ k v, us[k]? = some v → (L2.start N (V.ref p :: us))[1 + k]? = some (some v) := fun k v hk => by
    have hk' := (List.getElem?_eq_some_iff.mp hk).1
    unfold L2.start
    rw [List.getElem?_append_left (by simp; omega), Nat.add_comm, List.getElem?_map, List.getElem?_cons_succ, hk]
    rfl
  have h0 : (L2.start N (V.ref p :: us))[0]? = some (some (.ref p)) := rfl
  refine ⟨?_, vis, fun _ _ _ e => e, fun _ n => n, Same.refl _, fun _ _ _ z => z, fun i e m => ?_, fun i e l m c s => ?_, fun i j e f l m m' c c' n s s' => ?_⟩
  · unfold L2.start
    rw [List.length_append, List.length_map, List.length_replicate, List.length_cons]
    show us.length + 1 + (N.length - (us.length + 1)) = N.length
    omega
  · rcases List.mem_cons.mp m with q | m
    · cases q
      exact ⟨[], h0, hp, hv, .nil⟩
    · exact argC_at (i := 1) (as := [⟨τ1, x1⟩, ⟨τ2, x2⟩, ⟨τ3, x3⟩]) rs hat i e m
  · rcases List.mem_cons.mp m with q | m
    · cases q
      rw [h0] at s
      cases s
      exact .inr rfl
    · rw [(argC_ge (as := [⟨τ1, x1⟩, ⟨τ2, x2⟩, ⟨τ3, x3⟩]) (i := 1) m).2] at c
      cases c
  · rcases List.mem_cons.mp m with q | m
    · rcases List.mem_cons.mp m' with q' | m'
      · cases q
        cases q'
        exact n rfl
      · rw [(argC_ge (as := [⟨τ1, x1⟩, ⟨τ2, x2⟩, ⟨τ3, x3⟩]) (i := 1) m').2] at c'
        cases c'
    · rw [(argC_ge (as := [⟨τ1, x1⟩, ⟨τ2, x2⟩, ⟨τ3, x3⟩]) (i := 1) m).2] at c
      cases c
theorem sm_make3 {α1 : Type} {α2 : Type} {α3 : Type} {τ1 : Ty α1} {τ2 : Ty α2} {τ3 : Ty α3} {pre : α1 → α2 → α3 → Prop} {f : α1 → α2 → α3 → δ} {x1 : α1} {x2 : α2} {x3 : α3} {t : TA} (ha : SmA B Γ t [⟨τ1, x1⟩, ⟨τ2, x2⟩, ⟨τ3, x3⟩]) (hp : pre x1 x2 x3) : Sm B Γ (tMake C (spI3 τ1 τ2 τ3 pre C sch f) [] E t) (tObj C sch) (f x1 x2 x3) := fun σ Hv H w Q k =>
  ha σ Hv H w _ fun us Hv1 H1 g1 rs => fun x dx hx hdx ndx => by
    show spI3 τ1 τ2 τ3 pre C sch f (V.ref x :: (us ++ [])) _ _ E
    rw [List.append_nil]
    have vx := Same.free g1.vis hx
    have s0 : Same H1 (upd (upd H1 dx (.own x)) x (.ins C dx [])) := fun b o e => by
      rw [upd_ne (ne_of_none e hx), upd_ne (ne_of_none e hdx)]
      exact e
    refine ⟨x1, x2, x3, x, dx, us, Hv1, rfl, upd_same, vx, Same.trans g1.vis s0, rs, hp, fun Hv' H' fs h1 h2 h3 h4 h5 h6 h7 => ⟨rfl, ?_⟩⟩
    have s1 := same_upd (o := .ins C dx fs) h6
    refine k (.ref x) (upd Hv' x (.ins C dx fs)) H' (g1.trans ⟨fun b o e => h1 b o (ne_of_none e hx) (s0 _ _ e), Same.trans h2 s1, fun b o e => ?_, fun b n z => ?_⟩) ⟨x, dx, fs, rfl, upd_same, h7.up s1⟩
    · by_cases hb : b = x
      · subst hb
        rw [upd_same] at e
        cases e
        exact h5
      · rw [upd_ne hb] at e
        exact h3 _ _ e
    · have hb : b ≠ x := fun q => n (by rw [q]; exact hx)
      rw [upd_ne hb]
      exact h4 b hb (Same.some_ne s0 n) z
def spI4 {α1 : Type} {α2 : Type} {α3 : Type} {α4 : Type} (τ1 : Ty α1) (τ2 : Ty α2) (τ3 : Ty α3) (τ4 : Ty α4) (pre : α1 → α2 → α3 → α4 → Prop) (C : Addr) (sch : δ → List (Str × As)) (f : α1 → α2 → α3 → α4 → δ) : Sp := fun vs H Q _ => ∃ (x1 : α1) (x2 : α2) (x3 : α3) (x4 : α4), ∃ (p dx : Addr) (us : List V) (Hv : Hp), vs = .ref p :: us ∧ H p = some (.ins C dx []) ∧ Hv p = none ∧ Same Hv H ∧ Reps Hv us [⟨τ1, x1⟩, ⟨τ2, x2⟩, ⟨τ3, x3⟩, ⟨τ4, x4⟩] ∧ pre x1 x2 x3 x4 ∧ ∀ Hv' H' fs, (∀ b o, b ≠ p → H b = some o → H' b = some o) → Same Hv Hv' → Same Hv' H' → (∀ b, b ≠ p → H b ≠ none → Hv b = none → Hv' b = none) → H' p = some (.ins C dx fs) → Hv' p = none → FsRep Hv' fs (sch (f x1 x2 x3 x4)) → Q .non H'
theorem spI4_len {α1 : Type} {α2 : Type} {α3 : Type} {α4 : Type} {τ1 : Ty α1} {τ2 : Ty α2} {τ3 : Ty α3} {τ4 : Ty α4} {pre : α1 → α2 → α3 → α4 → Prop} {f : α1 → α2 → α3 → α4 → δ} (h : spI4 τ1 τ2 τ3 τ4 pre C sch f vs H Q E) : vs.length = 5 := by
  obtain ⟨_, _, _, _, _, _, us, _, rfl, _, _, _, r, _⟩ := h
  exact congrArg (· + 1) r.len
theorem spI4_body {α1 : Type} {α2 : Type} {α3 : Type} {α4 : Type} {τ1 : Ty α1} {τ2 : Ty α2} {τ3 : Ty α3} {τ4 : Ty α4} {pre : α1 → α2 → α3 → α4 → Prop} {f : α1 → α2 → α3 → α4 → δ} {N : List Str} {t : TS} (hl : 5 ≤ N.length) (h : spI4 τ1 τ2 τ3 τ4 pre C sch f vs H Q E) (hb : ∀ B0 : Bs, B0.n = N.length → ∀ p dx, ∀ (x1 : α1) (x2 : α2) (x3 : α3) (x4 : α4), pre x1 x2 x3 x4 → RtI B0 p dx C (sch (f x1 x2 x3 x4)) Q → G B0 t [(0, .ob p dx C []), (1, .fz τ1 x1), (2, .fz τ2 x2), (3, .fz τ3 x3), (4, .fz τ4 x4)] { nx := fun _ H' => Q .non H', rt := Q }) : t { nx := fun _ H' => Q .non H', rt := Q } (L2.start N vs) H := by
  obtain ⟨x1, x2, x3, x4, p, dx, us, Hv, rfl, hp, hv, vis, rs, pr, k⟩ := h
  have hlen : us.length = 4 := rs.len
  refine hb ⟨H, Hv, (· = p), N.length⟩ rfl p dx x1 x2 x3 x4 pr ⟨fun _ z => z, fun Hv' H' fs h1 h2 h3 h4 h5 h6 h7 => k Hv' H' fs h1 h2 h3 h4 h5 h6 h7⟩ _ Hv H ?_
  have hat : ∀ k v, us[k]? = some v → (L2.start N (V.ref p :: us))[1 + k]? = some (some v) := fun k v hk => by
    have hk' := (List.getElem?_eq_some_iff.mp hk).1
    unfold L2.start
    rw [List.getElem?_append_left (by simp; omega), Nat.add_comm, List.getElem?_map, List.getElem?_cons_succ, hk]
    rfl
  have h0 : (L2.start N (V.ref p :: us))[0]? = some (some (.ref p)) := rfl
  refine ⟨?_, vis, fun _ _ _ e => e, fun _ n => n, Same.refl _, fun _ _ _ z => z, fun i e m => ?_, fun i e l m c s => ?_, fun i j e f l m m' c c' n s s' => ?_⟩
  · unfold L2.start
    rw [List.length_append, List.length_map, List.length_replicate, List.length_cons]
    show us.length + 1 + (N.length - (us.length + 1)) = N.length
    omega
  · rcases List.mem_cons.mp m with q | m
    · cases q
      exact ⟨[], h0, hp, hv, .nil⟩
    · exact argC_at (i := 1) (as := [⟨τ1, x1⟩, ⟨τ2, x2⟩, ⟨τ3, x3⟩, ⟨τ4, x4⟩]) rs hat i e m
  · rcases List.mem_cons.mp m with q | m
    · cases q
      rw [h0] at s
      cases s
      exact .inr rfl
    · rw [(argC_ge (as := [⟨τ1, x1⟩, ⟨τ2, x2⟩, ⟨τ3, x3⟩, ⟨τ4, x4⟩]) (i := 1) m).2] at c
      cases c
  · rcases List.mem_cons.mp m with q | m
    · rcases List.mem_cons.mp m' with q' | m'
      · cases q
        cases q'
        exact n rfl
      · rw [(argC_ge (as := [⟨τ1, x1⟩, ⟨τ2, x2⟩, ⟨τ3, x3⟩, ⟨τ4, x4⟩]) (i := 1) m').2] at c'
        cases c'
    · rw [(argC_ge (as := [⟨τ1, x1⟩, ⟨τ2, x2⟩, ⟨τ3, x3⟩, ⟨τ4, x4⟩]) (i := 1) m).2] at c
      cases c
theorem sm_make4 {α1 : Type} {α2 : Type} {α3 : Type} {α4 : Type} {τ1 : Ty α1} {τ2 : Ty α2} {τ3 : Ty α3} {τ4 : Ty α4} {pre : α1 → α2 → α3 → α4 → Prop} {f : α1 → α2 → α3 → α4 → δ} {x1 : α1} {x2 : α2} {x3 : α3} {x4 : α4} {t : TA} (ha : SmA B Γ t [⟨τ1, x1⟩, ⟨τ2, x2⟩, ⟨τ3, x3⟩, ⟨τ4, x4⟩]) (hp : pre x1 x2 x3 x4) : Sm B Γ (tMake C (spI4 τ1 τ2 τ3 τ4 pre C sch f) [] E t) (tObj C sch) (f x1 x2 x3 x4) := fun σ Hv H w Q k =>
  ha σ Hv H w _ fun us Hv1 H1 g1 rs => fun x dx hx hdx ndx => by
    show spI4 τ1 τ2 τ3 τ4 pre C sch f (V.ref x :: (us ++ [])) _ _ E
    rw [List.append_nil]
    have vx := Same.free g1.vis hx
    have s0 : Same H1 (upd (upd H1 dx (.own x)) x (.ins C dx [])) := fun b o e => by
      rw [upd_ne (ne_of_none e hx), upd_ne (ne_of_none e hdx)]
      exact e
    refine ⟨x1, x2, x3, x4, x, dx, us, Hv1, rfl, upd_same, vx, Same.trans g1.vis s0, rs, hp, fun Hv' H' fs h1 h2 h3 h4 h5 h6 h7 => ⟨rfl, ?_⟩⟩
    have s1 := same_upd (o := .ins C dx fs) h6
    refine k (.ref x) (upd Hv' x (.ins C dx fs)) H' (g1.trans ⟨fun b o e => h1 b o (ne_of_none e hx) (s0 _ _ e), Same.trans h2 s1, fun b o e => ?_, fun b n z => ?_⟩) ⟨x, dx, fs, rfl, upd_same, h7.up s1⟩
    · by_cases hb : b = x
      · subst hb
        rw [upd_same] at e
        cases e
        exact h5
      · rw [upd_ne hb] at e
        exact h3 _ _ e
    · have hb : b ≠ x := fun q => n (by rw [q]; exact hx)
      rw [upd_ne hb]
      exact h4 b hb (Same.some_ne s0 n) z
def spI5 {α1 : Type} {α2 : Type} {α3 : Type} {α4 : Type} {α5 : Type} (τ1 : Ty α1) (τ2 : Ty α2) (τ3 : Ty α3) (τ4 : Ty α4) (τ5 : Ty α5) (pre : α1 → α2 → α3 → α4 → α5 → Prop) (C : Addr) (sch : δ → List (Str × As)) (f : α1 → α2 → α3 → α4 → α5 → δ) : Sp := fun vs H Q _ => ∃ (x1 : α1) (x2 : α2) (x3 : α3) (x4 : α4) (x5 : α5), ∃ (p dx : Addr) (us : List V) (Hv : Hp), vs = .ref p :: us ∧ H p = some (.ins C dx []) ∧ Hv p = none ∧ Same Hv H ∧ Reps Hv us [⟨τ1, x1⟩, ⟨τ2, x2⟩, ⟨τ3, x3⟩, ⟨τ4, x4⟩, ⟨τ5, x5⟩] ∧ pre x1 x2 x3 x4 x5 ∧ ∀ Hv' H' fs, (∀ b o, b ≠ p → H b = some o → H' b = some o) → Same Hv Hv' → Same Hv' H' → (∀ b, b ≠ p → H b ≠ none → Hv b = none → Hv' b = none) → H' p = some (.ins C dx fs) → Hv' p = none → FsRep Hv' fs (sch (f x1 x2 x3 x4 x5)) → Q .non H'
theorem spI5_len {α1 : Type} {α2 : Type} {α3 : Type} {α4 : Type} {α5 : Type} {τ1 : Ty α1} {τ2 : Ty α2} {τ3 : Ty α3} {τ4 : Ty α4} {τ5 : Ty α5} {pre : α1 → α2 → α3 → α4 → α5 → Prop} {f : α1 → α2 → α3 → α4 → α5 → δ} (h : spI5 τ1 τ2 τ3 τ4 τ5 pre C sch f vs H Q E) : vs.length = 6 := by
  obtain ⟨_, _, _, _, _, _, _, us, _, rfl, _, _, _, r, _⟩ := h
  exact congrArg (· + 1) r.len
theorem spI5_body {α1 : Type} {α2 : Type} {α3 : Type} {α4 : Type} {α5 : Type} {τ1 : Ty α1} {τ2 : Ty α2} {τ3 : Ty α3} {τ4 : Ty α4} {τ5 : Ty α5} {pre : α1 → α2 → α3 → α4 → α5 → Prop} {f : α1 → α2 → α3 → α4 → α5 → δ} {N : List Str} {t : TS} (hl : 6 ≤ N.length) (h : spI5 τ1 τ2 τ3 τ4 τ5 pre C sch f vs H Q E) (hb : ∀ B0 : Bs, B0.n = N.length → ∀ p dx, ∀ (x1 : α1) (x2 : α2) (x3 : α3) (x4 : α4) (x5 : α5), pre x1 x2 x3 x4 x5 → RtI B0 p dx C (sch (f x1 x2 x3 x4 x5)) Q → G B0 t [(0, .ob p dx C []), (1, .fz τ1 x1), (2, .fz τ2 x2), (3, .fz τ3 x3), (4, .fz τ4 x4), (5, .fz τ5 x5)] { nx := fun _ H' => Q .non H', rt := Q }) : t { nx := fun _ H' => Q .non H', rt := Q } (L2.start N vs) H := by
  obtain ⟨x1, x2, x3, x4, x5, p, dx, us, Hv, rfl, hp, hv, vis, rs, pr, k⟩ := h
  have hlen : us.length = 5 := rs.len
  refine hb ⟨H, Hv, (· = p), N.length⟩ rfl p dx x1 x2 x3 x4 x5 pr ⟨fun _ z => z, fun Hv' H' fs h1 h2 h3 h4 h5 h6 h7 => k Hv' H' fs h1 h2 h3 h4 h5 h6 h7⟩ _ Hv H ?_
  have hat : ∀ k v, us[k]? = some v → (L2.start N (V.ref p :: us))[1 + k]? = some (some v) := fun k v hk => by
    have hk' := (List.getElem?_eq_some_iff.mp hk).1
    unfold L2.start
    rw [List.getElem?_append_left (by simp; omega), Nat.add_comm, List.getElem?_map, List.getElem?_cons_succ, hk]
    rfl
  have h0 : (L2.start N (V.ref p :: us))[0]? = some (some (.ref p)) := rfl
  refine ⟨?_, vis, fun _ _ _ e => e, fun _ n => n, Same.refl _, fun _ _ _ z => z, fun i e m => ?_, fun i e l m c s => ?_, fun i j e f l m m' c c' n s s' => ?_⟩
  · unfold L2.start
    rw [List.length_append, List.length_map, List.length_replicate, List.length_cons]
    show us.length + 1 + (N.length - (us.length + 1)) = N.length
    omega
  · rcases List.mem_cons.mp m with q | m
    · cases q
      exact ⟨[], h0, hp, hv, .nil⟩
    · exact argC_at (i := 1) (as := [⟨τ1, x1⟩, ⟨τ2, x2⟩, ⟨τ3, x3⟩, ⟨τ4, x4⟩, ⟨τ5, x5⟩]) rs hat i e m
  · rcases List.mem_cons.mp m with q | m
    · cases q
      rw [h0] at s
      cases s
      exact .inr rfl
    · rw [(argC_ge (as := [⟨τ1, x1⟩, ⟨τ2, x2⟩, ⟨τ3, x3⟩, ⟨τ4, x4⟩, ⟨τ5, x5⟩]) (i := 1) m).2] at c
      cases c
  · rcases List.mem_cons.mp m with q | m
    · rcases List.mem_cons.mp m' with q' | m'
      · cases q
        cases q'
        exact n rfl
      · rw [(argC_ge (as := [⟨τ1, x1⟩, ⟨τ2, x2⟩, ⟨τ3, x3⟩, ⟨τ4, x4⟩, ⟨τ5, x5⟩]) (i := 1) m').2] at c'
        cases c'
    · rw [(argC_ge (as := [⟨τ1, x1⟩, ⟨τ2, x2⟩, ⟨τ3, x3⟩, ⟨τ4, x4⟩, ⟨τ5, x5⟩]) (i := 1) m).2] at c
      cases c
theorem sm_make5 {α1 : Type} {α2 : Type} {α3 : Type} {α4 : Type} {α5 : Type} {τ1 : Ty α1} {τ2 : Ty α2} {τ3 : Ty α3} {τ4 : Ty α4} {τ5 : Ty α5} {pre : α1 → α2 → α3 → α4 → α5 → Prop} {f : α1 → α2 → α3 → α4 → α5 → δ} {x1 : α1} {x2 : α2} {x3 : α3} {x4 : α4} {x5 : α5} {t : TA} (ha : SmA B Γ t [⟨τ1, x1⟩, ⟨τ2, x2⟩, ⟨τ3, x3⟩, ⟨τ4, x4⟩, ⟨τ5, x5⟩]) (hp : pre x1 x2 x3 x4 x5) : Sm B Γ (tMake C (spI5 τ1 τ2 τ3 τ4 τ5 pre C sch f) [] E t) (tObj C sch) (f x1 x2 x3 x4 x5) := fun σ Hv H w Q k =>
  ha σ Hv H w _ fun us Hv1 H1 g1 rs => fun x dx hx hdx ndx => by
    show spI5 τ1 τ2 τ3 τ4 τ5 pre C sch f (V.ref x :: (us ++ [])) _ _ E
    rw [List.append_nil]
    have vx := Same.free g1.vis hx
    have s0 : Same H1 (upd (upd H1 dx (.own x)) x (.ins C dx [])) := fun b o e => by
      rw [upd_ne (ne_of_none e hx), upd_ne (ne_of_none e hdx)]
      exact e
    refine ⟨x1, x2, x3, x4, x5, x, dx, us, Hv1, rfl, upd_same, vx, Same.trans g1.vis s0, rs, hp, fun Hv' H' fs h1 h2 h3 h4 h5 h6 h7 => ⟨rfl, ?_⟩⟩
    have s1 := same_upd (o := .ins C dx fs) h6
    refine k (.ref x) (upd Hv' x (.ins C dx fs)) H' (g1.trans ⟨fun b o e => h1 b o (ne_of_none e hx) (s0 _ _ e), Same.trans h2 s1, fun b o e => ?_, fun b n z => ?_⟩) ⟨x, dx, fs, rfl, upd_same, h7.up s1⟩
    · by_cases hb : b = x
      · subst hb
        rw [upd_same] at e
        cases e
        exact h5
      · rw [upd_ne hb] at e
        exact h3 _ _ e
    · have hb : b ≠ x := fun q => n (by rw [q]; exact hx)
      rw [upd_ne hb]
      exact h4 b hb (Same.some_ne s0 n) z
end
end VC

set_option Elab.async false
set_option linter.all false
set_option maxRecDepth 100000
set_option maxHeartbeats 4000000
/-! VXa: exceptions as values that stand in the abstract heap; try, raise, isinstance, fields. -/
namespace VX
open PySem PySem.Spec PyProof.Rows L2
/-- an exception of the class cls with its dict d, at a -/
def ExV (cls : Value) (d : Option Addr) (a : Addr) : HO := .ext fun h => ∃ (oe : Obj) (vs : Array Value), h.get? a = some oe ∧ Zc cls d oe ∧ oe.data = .fields vs
theorem exV_ok {P : Program} {w : World} {H : Hp} {h : Heap} {a : Addr} {cls : Value} {d : Option Addr} {oe : Obj} {vs : Array Value} (e : h.get? a = some oe) (z : Zc cls d oe) (f : oe.data = .fields vs) : ObjOk P w H h a (ExV cls d a) :=
  ⟨⟨oe, vs, e, z, f⟩, ⟨oe, e⟩, fun _ _ ⟨o, v, q, r⟩ k => ⟨o, v, k o q, r⟩⟩
theorem exV_at {P : Program} {w : World} {H : Hp} {h : Heap} {a : Addr} {cls : Value} {d : Option Addr} (hok : HOk P w H h) (e : H a = some (ExV cls d a)) : ∃ (oe : Obj) (vs : Array Value), h.get? a = some oe ∧ Zc cls d oe ∧ oe.data = .fields vs := by
  have x : ObjOk P w H h a (.ext fun h => ∃ (oe : Obj) (vs : Array Value), h.get? a = some oe ∧ Zc cls d oe ∧ oe.data = .fields vs) := hok a _ e
  exact x.1
section
variable {X : Cx} {pins : List (Addr × Obj)} {σ : L2.St} {H : Hp} {sI s s' : Shared} {B : Heap}
/-- back on the ground, the exception tracked -/
theorem landedV {a : Addr} {o : HO} (I : Inv X pins σ H sI) (nb : ∀ b o, sI.heap.get? b = some o → b ∉ frs X.stack → B.get? b = some o) (st : B.StaysIn s'.heap) (up : sI.heap.UpToSlots s'.heap) (os : s'.os = sI.os) (ag : AllBare s'.gens)
    (na : H a = none) (nB : B.get? a = none) (nF : a ∉ frs X.stack) (new : ObjOk X.prog X.w (upd H a o) s'.heap a o) : Inv X pins σ (upd H a o) s' := by
  have nf : ∀ b ∈ frs X.stack, ∀ o, sI.heap.get? b = some o → ∃ sl, s'.heap.get? b = some { o with slots := sl } := fun b hb o e => by
    obtain ⟨_, o', e', hd⟩ := I.stack.mem hb
    rw [e] at e'; cases e'
    exact up b o e hd
  have ne : ∀ b u, sI.heap.get? b = some u → b ≠ a := fun b u e q => by
    subst q
    have z := nb b u e nF
    rw [nB] at z; cases z
  have J := I.call (ch := []) (h' := s'.heap) (g' := s'.gens) (t' := s'.toks) (d' := s'.drawn) (H' := upd H a o)
    ⟨fun b o e _ hb _ => st b o (nb b o e hb), fun b o e _ hb _ => nf b hb o e, fun b u e n _ => by rw [upd_ne (ne b u e)]; exact n, fun b o e _ => by
      by_cases hb : b ∈ frs X.stack
      · obtain ⟨sl, q⟩ := nf b hb o e
        exact ⟨_, q⟩
      · exact ⟨o, st b o (nb b o e hb)⟩, fun b xs e => by rw [upd_ne (ne_of_none e na)]; exact e, fun b o xs e => by rw [upd_ne (ne_of_none e na)]; exact e, fun b ps e => ⟨#[], by rw [upd_ne (ne_of_none e na), e]; simp⟩⟩
    (fun b u e => by
      by_cases hb : b = a
      · subst hb
        rw [upd_same] at e
        cases e
        exact new
      · rw [upd_ne hb] at e
        exact ((I.inGround nb).kept st b u e).stay (fun c v _ q => q) (fun c q => by rw [upd_ne (ne_of_none q na)]; exact q) fun c xs q => by rw [upd_ne (ne_of_none q na)]; exact q) ag (fun _ z => nomatch z)
  obtain ⟨a1, a2, a3, a4, a5⟩ := s'
  have e5 : a5 = sI.os := os
  subst e5
  exact J
theorem suiteV (I : Inv X pins σ H s) {a : Addr} : Inv (X.suite a (X.pn ++ pins)) [] σ H s :=
  ⟨I.ok.suite _ _, I.os, I.bare, I.base, I.loc, I.cell, I.free, I.freeC, fun p hp => I.pin p (by rw [List.append_nil] at hp; exact hp), I.hok, I.len⟩
theorem unsuiteV {a : Addr} {pn' : List (Addr × Obj)} (I : Inv (X.suite a (X.pn ++ pins)) pn' σ H s) (ok : X.Ok) : Inv X pins σ H s :=
  ⟨ok, I.os, I.bare, I.base, I.loc, I.cell, I.free, I.freeC, fun p hp => I.pin p (List.mem_append_left _ hp), I.hok, I.len⟩
end
/-- what 'except x as n' wishes: the exception is tracked -/
def wAsV (K : PySem.W.Frag) (c : Value) (i : Nat) (ts : TS) (Wout : WX) (D : Ends) : WX := fun cls d σ H =>
  ∃ b, PySem.W.exmOne K cls c = some b ∧ (b = true → ∀ a, H a = none → ts { nx := fun σ' H' => D.nx (σ'.set i none) H', rt := D.rt, bk := fun σ' H' => D.bk (σ'.set i none) H', ct := fun σ' H' => D.ct (σ'.set i none) H' } (σ.set i (some (.ref a))) (upd H a (ExV cls d a))) ∧
    (b = false → Wout cls d σ H)
def tTry (K : PySem.W.Frag) (c : Value) (i : Nat) (ts : TS) (Wout : WX) (tb : WX → TS) : TS := fun D σ H => tb (wAsV K c i ts Wout D) D σ H
section
variable {X : Cx} {x n : Str} {c : Value} {i : Nat} {body suite : List Stmt} {b₀ : Stmt} {np pos pos' : Pos} {tb : WX → TS} {ts : TS} {Wout : WX}
theorem ps_try_asV (hs : X.stack = X.env :: X.outer) (hf : X.env.frame = some X.env.locals) (hN : X.N.Nodup) (hi : X.N[i]? = some n) (hln : X.env.kindOf n = some .local) (hc : Names X x c) (tk : Takes X Wout)
    (hb : ∀ (W : WX) (pn : List (Addr × Obj)) (xe : Value → Shared → Prop), Takes (X.tr pn xe) W → PassesOwn (model X.prog X.w) X.A X.env xe → PSs (X.tr pn xe) body (tb W))
    (hsu : ∀ (a : Addr) (pn : List (Addr × Obj)), PSs (X.suite a pn) (b₀ :: suite) ts) :
    PS X (.Try body [.ExceptHandler (some (.Name x np)) (some n) (b₀ :: suite) pos'] [] [] pos) (tTry X.K c i ts Wout tb) := by
  refine ⟨fun pins s σ H D I h => ?_⟩
  have ok := I.ok
  have hfr : X.A.frames = some (X.env :: X.outer) := by rw [ok.frames, hs]
  have hloc : Loc X.env.scope n := .inl hln
  refine wpAny_Try_except ?_
  refine wpAny_mono ((hb (wAsV X.K c i ts Wout D) (X.pn ++ pins) (fun e s₁ => wpAny (model X.prog X.w) X.A (noteFrame e X.env) (fun _ s₂ => wpAny (model X.prog X.w) X.A (setFlight e none) (fun _ s₃ =>
    wpAny (model X.prog X.w) X.A (handleBy e X.env [.ExceptHandler (some (.Name x np)) (some n) (b₀ :: suite) pos']) (SP X pins D) X.xe s₃) X.xe s₂) X.xe s₁) (fun u s' xx => ?_) PassesOwn.looking).run [] s σ H D (I.toTry _) h) (fun f s1 hsp => ?_) (fun e s1 he => he)
  · -- the catch
    obtain ⟨a, B, sI, pins', σ', H', cls, d, rfl, J', nb, up, sky, na, os, ag, b, hb1, hyes, hno⟩ := xx
    have J : Inv X pins σ' H' sI := J'.ofTry ok
    have sky' : Sky B (X.env :: X.outer) a (Zc cls d) X.env.locals s'.heap := by rw [← hs]; exact sky
    show wpAny (model X.prog X.w) X.A (noteFrame (.ref a) X.env) _ _ _
    refine Sky.land Zc.steady hfr hf sky' fun h3 fl3 up3 => ?_
    have J3 : Inv X pins σ' H' { s' with heap := h3 } := J.landed nb fl3.1 (up.trans up3) os ag
    obtain ⟨oe3, vs3, he3, hz3, hd3⟩ := fl3.there
    have notFr : ∀ {h : Heap} {o : Obj} {vs : Array Value}, h.FunFrames B (X.env :: X.outer) → h.get? a = some o → o.data = .fields vs → a ∉ frs (X.env :: X.outer) := fun {h o vs} ff e dd hm => by
      obtain ⟨_, o', e', hnf⟩ := ff.mem hm
      rw [e] at e'; cases e'
      exact hnf _ dd
    have nfr := notFr fl3.2.2.1 he3 hd3
    have nL : a ≠ X.env.locals := fun z => nfr (List.mem_filterMap.mpr ⟨X.env, List.mem_cons_self, by rw [hf, z]⟩)
    have nF : a ∉ X.fs := fun hm => by
      obtain ⟨e, he, q⟩ := List.mem_filterMap.mp hm
      exact nfr (List.mem_filterMap.mpr ⟨e, List.mem_cons_of_mem _ he, q⟩)
    have S3 := J3.suite he3 hd3 na nL nF
    refine wpAny_handleBy_cons (codeAny_handlers_test ?_) (by intro q; cases q)
    have LT : PySem.W.Looks (model X.prog X.w) h3 (typeOf (.ref a)) cls := fun A Q E s k q => wpAny_typeOf_ref (k _ _ he3) (by rw [hz3.1]; exact q)
    have LM := PySem.W.exm_one (M := model X.prog X.w) (J3.kIn) LT hb1
    have test : ∀ {Q : Value → Shared → Prop} {E : Value → Shared → Prop}, Q c { s' with heap := h3 } → wpAny (model X.prog X.w) (X.A.mark (some (.ref a))) (eval (.Name x np) X.env) Q E { s' with heap := h3 } := fun {Q E} q => by
      obtain ⟨hg, hdbg, hm | ⟨hm, hv, hnn⟩⟩ := hc
      · exact ld_glob (X := X.suite a ((a, oe3) :: (X.pn ++ pins))) S3 hg hm q hdbg
      · exact ld_blt (X := X.suite a ((a, oe3) :: (X.pn ++ pins))) S3 hg hm hv q hnn hdbg
    refine test (LM.here ?_)
    cases b with
    | true =>
      refine codeAny_handlers_suite_as ?_
      refine HandSPX.lands_againZ fl3 fun h4 fl4 up4 => ?_
      obtain ⟨oe4, vs4, he4, hz4, hd4⟩ := fl4.there
      have J4 : Inv X pins σ' (upd H' a (ExV cls d a)) { s' with heap := h4 } := landedV (s' := { s' with heap := h4 }) J nb fl4.1 ((up.trans up3).trans up4) os ag na fl4.2.1 (by rw [hs]; exact nfr) (exV_ok he4 hz4 hd4)
      have S4 := suiteV (a := a) J4
      refine store_ok (X := X.suite a (X.pn ++ pins)) (v := .ref a) S4 hN hi hloc rfl (fun s5 S5 => ?_) (.inr hln)
      refine wpAny_mono ((hsu a (X.pn ++ pins)).run [] s5 _ _ _ S5 (hyes rfl a na)) (fun f s6 hsp => ?_) (fun _ _ z => False.elim z)
      have end_ : ∀ {σ6 : L2.St} {H6 : Hp} {Q : Shared → Prop}, Inv (X.suite a (X.pn ++ pins)) [] σ6 H6 s6 → (∀ s7, Inv X pins (σ6.set i none) H6 s7 → Q s7) →
          wpAny (model X.prog X.w) X.A (do bindName X.env n .none; unbindBehindTheSuite X.env n pos') (fun _ s7 => Q s7) X.xe s6 := fun {σ6 H6 Q} S6 hq => gone_ok (unsuiteV S6 ok) hN hi hln hq
      cases f with
      | next =>
        obtain ⟨σ6, H6, S6, q6⟩ := hsp
        exact end_ S6 fun s7 J7 => ⟨_, _, J7, q6⟩
      | brk =>
        obtain ⟨σ6, H6, S6, q6⟩ := hsp
        exact end_ S6 fun s7 J7 => ⟨_, _, J7, q6⟩
      | cont =>
        obtain ⟨σ6, H6, S6, q6⟩ := hsp
        exact end_ S6 fun s7 J7 => ⟨_, _, J7, q6⟩
      | ret u =>
        obtain ⟨v, σ6, H6, S6, r6, q6⟩ := hsp
        exact end_ S6 fun s7 J7 => ⟨v, _, _, J7, r6, q6⟩
    | false =>
      show wpAny _ X.A (handleBy (.ref a) X.env []) _ _ _
      refine wpAny_handleBy_nil ?_
      obtain ⟨k1, k2, k3, oe, vs, T, oT, ts', he, hz, hd, h1, hr⟩ := id fl3
      unfold PySem.passOn
      refine wpAny_bind (wpAny_field he hd h1 ?_)
      rw [if_neg (show ¬ ((Value.ref T == Value.none) = true) from by simp)]
      have fin : wpAny (model X.prog X.w) X.A (setFlight (.ref a) X.env.frame) (fun _ s4 => wpAny (model X.prog X.w) X.A (throw (.ref a) : Sem Flow) (SP X pins D) X.xe s4) X.xe { s' with heap := h3 } := by
        rw [hf]
        refine HandSPX.setFlight_upZ fl3 fun h4 hh4 up4 => wpAny_throw (tk _ _ ?_)
        exact ⟨a, B, sI, pins, σ', H', cls, d, rfl, J, nb, (up.trans up3).trans up4, .inr (.inr (by rw [hs]; exact hh4)), na, os, ag, hno rfl⟩
      first
        | exact wpAny_bind (wpAny_pure (wpAny_bind fin))
        | exact wpAny_bind fin
  · cases f with
    | next =>
      obtain ⟨σ', H', J', q⟩ := hsp
      exact wpAny_execs_nil ⟨σ', H', J'.ofTry ok, q⟩
    | brk =>
      obtain ⟨σ', H', J', q⟩ := hsp
      exact ⟨σ', H', J'.ofTry ok, q⟩
    | cont =>
      obtain ⟨σ', H', J', q⟩ := hsp
      exact ⟨σ', H', J'.ofTry ok, q⟩
    | ret u =>
      obtain ⟨v, σ', H', J', r, q⟩ := hsp
      exact ⟨v, σ', H', J'.ofTry ok, r, q⟩
end
/-! ### isinstance and fields of such a value -/
/-- what a class of exceptions must say -/
structure ExcC (K : PySem.W.Frag) (D : Addr) : Prop where
  cl : (PySem.W.clsIn K D).isSome = true
  hg : PySem.W.findIn K (.ref D) "__getattribute__" = some (some (.builtin "BaseException.__getattribute__"))
  hk : PySem.W.findIn K (.ref D) "__getattr__" = some none
  hs : PySem.W.subIn K (.ref D) (.type "BaseException") = some true
  hd : PySem.W.hasDictIn K D = true
  ha : PySem.W.findIn K (.ref D) "__class__" = some (some (.builtin "object.__class__"))
  hn : PySem.W.specialIn K (.builtin "object.__class__") "__get__" = some (some (.builtin "getset_descriptor.__get__"))
  ht : PySem.W.takesIn K (.builtin "object.__class__") = some true
  hm : PySem.W.mroIn K D (.type "object") = some true
  ty : PySem.W.typeIn K (.ref D) = some (.type "type")
def excB (K : PySem.W.Frag) (D : Addr) : Bool :=
  (PySem.W.clsIn K D).isSome && (decide (PySem.W.findIn K (.ref D) "__getattribute__" = some (some (.builtin "BaseException.__getattribute__"))) && (decide (PySem.W.findIn K (.ref D) "__getattr__" = some none) && (decide (PySem.W.subIn K (.ref D) (.type "BaseException") = some true) && (PySem.W.hasDictIn K D &&
    (decide (PySem.W.findIn K (.ref D) "__class__" = some (some (.builtin "object.__class__"))) && (decide (PySem.W.specialIn K (.builtin "object.__class__") "__get__" = some (some (.builtin "getset_descriptor.__get__"))) && (decide (PySem.W.takesIn K (.builtin "object.__class__") = some true) && (decide (PySem.W.mroIn K D (.type "object") = some true) && decide (PySem.W.typeIn K (.ref D) = some (.type "type"))))))))))
theorem excB_ok {K : PySem.W.Frag} {D : Addr} (h : excB K D = true) : ExcC K D := by
  obtain ⟨h1, h⟩ := Bool.and_eq_true_iff.mp h
  obtain ⟨h2, h⟩ := Bool.and_eq_true_iff.mp h
  obtain ⟨h3, h⟩ := Bool.and_eq_true_iff.mp h
  obtain ⟨h4, h⟩ := Bool.and_eq_true_iff.mp h
  obtain ⟨h5, h⟩ := Bool.and_eq_true_iff.mp h
  obtain ⟨h6, h⟩ := Bool.and_eq_true_iff.mp h
  obtain ⟨h7, h⟩ := Bool.and_eq_true_iff.mp h
  obtain ⟨h8, h⟩ := Bool.and_eq_true_iff.mp h
  obtain ⟨h9, h10⟩ := Bool.and_eq_true_iff.mp h
  exact ⟨h1, of_decide_eq_true h2, of_decide_eq_true h3, of_decide_eq_true h4, h5, of_decide_eq_true h6, of_decide_eq_true h7, of_decide_eq_true h8, of_decide_eq_true h9, of_decide_eq_true h10⟩
/-- the dict of an exception stands -/
def DicOk (H : Hp) (d : Option Addr) : Prop := ∀ dd, d = some dd → ∃ fs, H dd = some (.xd fs)
section
variable {X : Cx} {pins : List (Addr × Obj)} {σ : L2.St} {H : Hp} {s : Shared}
theorem inst_of {a D : Addr} {d : Option Addr} (I : Inv X pins σ H s) (e : H a = some (ExV (.ref D) d a)) (hd : DicOk H d) : ∃ oe od, PySem.W.InstAt s.heap a oe D od := by
  obtain ⟨oe, vs, h1, h2, h3⟩ := exV_at I.hok e
  cases d with
  | none => exact ⟨oe, none, h1, h2.1, by unfold PySem.W.notCls; rw [h3] <;> rfl, by rw [h2.2]; trivial⟩
  | some dd =>
    obtain ⟨fs, hfs⟩ := hd dd rfl
    have hx : ObjOk X.prog X.w H s.heap dd (.xd fs) := I.hok dd _ hfs
    obtain ⟨mA, hns, hr⟩ := hx
    obtain ⟨od, ho, hl⟩ := lookIn_ns hns
    exact ⟨oe, some od, h1, h2.1, by unfold PySem.W.notCls; rw [h3] <;> rfl, by rw [h2.2]; exact ho⟩
/-- isinstance(e, c) -/
def rIsV (K : PySem.W.Frag) : List V → Hp → VK → Prop := fun xs H Q => ∃ (a D : Addr) (d : Option Addr) (c : V) (cv : Value) (b : Bool), xs = [.ref a, c] ∧ H a = some (ExV (.ref D) d a) ∧ DicOk H d ∧ ExcC K D ∧ (∀ u, RelV c u → u = cv) ∧ PySem.W.kitOne K (.ref D) cv = some b ∧ Q (.bl b) H
theorem call_isV : CallR X (.builtin "isinstance") (rIsV X.K) := by
  intro pins s σ H xs us Q I r h
  obtain ⟨a, D, d, c, cv, b, rfl, ha, hd, C, hcv, e, q⟩ := h
  cases r with
  | cons rx rr =>
    cases rr with
    | cons rt rr =>
      cases rr
      cases rx
      have ec := hcv _ rt
      subst ec
      obtain ⟨oe, od, J⟩ := inst_of I ha hd
      exact PySem.W.kia_one (PySem.W.kitx_exc C.cl C.hg C.hk C.hs C.ha C.hn C.ht C.hm) I.kIn J e (fun z => nomatch z) fun tk => ⟨.bl b, H, I.kept (t' := tk) fun _ _ z => z, rfl, q⟩
/-- isinstance(e, (c1, c2, ..)) -/
def rIsT (K : PySem.W.Frag) : List V → Hp → VK → Prop := fun xs H Q => ∃ (a D p : Addr) (d : Option Addr) (cs : List Addr) (b : Bool), xs = [.ref a, .ref p] ∧ H a = some (ExV (.ref D) d a) ∧ DicOk H d ∧ ExcC K D ∧ H p = some (.tup (cs.map V.ref)) ∧ PySem.W.kitAny K (.ref D) (cs.map Value.ref) = some b ∧ Q (.bl b) H
theorem refs_eq : ∀ {cs : List Addr} {us : List Value}, Vals (cs.map V.ref) us → us = cs.map Value.ref
  | [], _, .nil => rfl
  | _ :: _, _, .cons e t => by
    rw [refs_eq t]
    obtain rfl := e
    rfl
theorem call_isT : CallR X (.builtin "isinstance") (rIsT X.K) := by
  intro pins s σ H xs us Q I r h
  obtain ⟨a, D, p, d, cs, b, rfl, ha, hd, C, hp, e, q⟩ := h
  cases r with
  | cons rx rr =>
    cases rr with
    | cons rt rr =>
      cases rr
      cases rx
      cases rt
      obtain ⟨oe, od, J⟩ := inst_of I ha hd
      have hx : ObjOk X.prog X.w H s.heap p (.tup (cs.map V.ref)) := I.hok p _ hp
      obtain ⟨z, its, rv, ob, e1, e2, n, e3⟩ := hx
      have ei := refs_eq rv
      subst ei
      obtain ⟨oc, oda, od', osl⟩ := ob
      dsimp only at e2 e3
      subst e2 e3
      exact PySem.W.kia_tup (PySem.W.kitx_exc C.cl C.hg C.hk C.hs C.ha C.hn C.ht C.hm) I.kIn J e1 e (fun z => nomatch z) fun tk => ⟨.bl b, H, I.kept (t' := tk) fun _ _ z => z, rfl, q⟩
end
section
variable {X : Cx} {e : Expr} {te : TE} {pos : Pos} {n : Str}
/-- e.f -/
def tXfV (K : PySem.W.Frag) (f : Str) (te : TE) : TE := fun σ H Q => te σ H fun x H1 => ∃ (a C dd : Addr) (fs : List (Str × V)) (v : V), x = .ref a ∧ H1 a = some (ExV (.ref C) (some dd) a) ∧ ExcC K C ∧ PySem.W.findIn K (.ref C) f = some none ∧ H1 dd = some (.xd fs) ∧ fs.lookup f = some v ∧ Q v H1
theorem pe_xfV (he : PE X e te) (hb : attributeBase e n X.env (eval e X.env) = eval e X.env := by rfl) : PE X (.Attribute e n pos) (tXfV X.K n te) := by
  refine ⟨fun pins s σ H Q I h => ?_⟩
  refine attr_of hb (thn (he.run pins s σ H _ I h) fun u s1 hh => ?_)
  obtain ⟨x, H1, I1, rx, a, C, dd, fs, v, ex, ha, T, hno, hfs, l, q⟩ := hh
  subst ex
  obtain rfl : u = Value.ref a := rx
  obtain ⟨oe, vs, h1, h2, h3⟩ := exV_at I1.hok ha
  have hx : ObjOk X.prog X.w H1 s1.heap dd (.xd fs) := I1.hok dd _ hfs
  obtain ⟨mA, hns, hr⟩ := hx
  obtain ⟨od, ho, hl⟩ := lookIn_ns hns
  obtain ⟨u, hu, ru⟩ := RelO.some_of (v := v) (o := mA n) (by rw [← l]; exact hr n)
  have J : PySem.W.InstAt s1.heap a oe C (some od) := ⟨h1, h2.1, by unfold PySem.W.notCls; rw [h3] <;> rfl, by rw [h2.2]; exact ho⟩
  exact HandSPX.exc_get I1.kIn J T.hg T.hk T.hs (PySem.W.findObj_own T.hd hno rfl (by rw [hl, hu])) (handed_of ru) ⟨v, H1, I1.tok _, ru, q⟩
end
/-! ### Base.__init__(self, ..) of an own base without an __init__ of its own -/
section
variable {X : Cx} {e : Expr} {es : List Expr} {ta : TA} {p1 p2 pos : Pos} {x : Str} {C0 : Addr}
structure BasC (K : PySem.W.Frag) (C0 : Addr) : Prop where
  rd : PySem.W.readsIn K C0 (.type "type") = true
  sg : PySem.W.specialIn K (.ref C0) "__getattribute__" = some (some (.builtin "type.__getattribute__"))
  vV : PySem.W.findCls K (.ref C0) (.type "type") "__init__" = some (.val (.builtin "ValueError.__init__"))
theorem pe_peI {pl : Sem Bool} (hm : X.mg x = some (.ref C0)) (T0 : BasC X.K C0) (ha : PA X (e :: es) ta) (hg : Gl X x := by rfl) (hdb : (x == ("__debug__" : Str)) = false := by decide)
    (hc : eval (.Call (.Attribute (.Name x p1) "__init__" p2) (e :: es) [] pos) X.env = (do
      let ov ← eval (.Name x p1) X.env
      standAt p2.atName
      let (f, first) ← holding [ov] (getMethod ov "__init__" pl)
      callWith pos f first (backTo pos (starEach (e :: es) X.env)) (backToKw pos (keywordEach [] X.env))) := by rfl)
    (he : starEach (e :: es) X.env = (false, eval e X.env) :: starEach es X.env := by rfl) (hpl : (backTo pos (starEach es X.env)).any (·.1) = false := by rfl) :
    PE X (.Call (.Attribute (.Name x p1) "__init__" p2) (e :: es) [] pos) (tVeI X.K ta) := by
  refine ⟨fun pins s σ H Q I h => ?_⟩
  refine PySem.W.methodCall_KW (ld_glob I hg hm ?_ hdb) hc
  refine PySem.W.method_cls I.kIn T0.sg (PySem.W.cls_value I.kIn T0.rd T0.vV (by decide +kernel) ?_)
  show wpAny _ _ (callWith pos (Value.builtin "ValueError.__init__") [] (backTo pos (starEach (e :: es) X.env)) []) _ _ _
  refine PyProof.Rows.callWith_method1 (thn (ha.run pos pins _ σ H _ (I.tok _) h) fun us s1 ⟨vs, H1, I1, r1, a, C, ws, ev, hl, T, ea, q⟩ => ?_) he hpl
  subst ev
  cases r1 with
  | @cons _ u0 _ ur ra rw' =>
    obtain rfl : u0 = Value.ref a := ra
    have hlen : ur.length ≤ sizeLine := by
      rw [← Paired.length rw', sizeLine_eq]
      omega
    exact oinit_ok T I1 ea hlen fun s' J => ⟨.non, H1, J, rfl, q⟩
end
/-- the promise of such an __init__: one field, two -/
def spEI1 (C : Addr) (f1 : Str) : Sp := fun vs H Q _ => ∃ (p : Addr) (y : V), vs = [.ref p, y] ∧ H p = some (exo p C none) ∧
  ∀ dx H', H dx = none → dx ≠ p → (∀ b, b ≠ p → b ≠ dx → H' b = H b) → H' p = some (exo p C (some dx)) → H' dx = some (exd dx [(f1, y)]) → Q .non H'
def spEI2 (C : Addr) (f1 f2 : Str) : Sp := fun vs H Q _ => ∃ (p : Addr) (y z : V), vs = [.ref p, y, z] ∧ H p = some (exo p C none) ∧
  ∀ dx H', H dx = none → dx ≠ p → (∀ b, b ≠ p → b ≠ dx → H' b = H b) → H' p = some (exo p C (some dx)) → H' dx = some (exd dx [(f2, z), (f1, y)]) → Q .non H'
theorem spEI1_len {C : Addr} {f1 : Str} {vs : List V} {H : Hp} {Q : VK} {E : XK} (h : spEI1 C f1 vs H Q E) : vs.length = 2 := by
  obtain ⟨_, _, rfl, _⟩ := h
  rfl
theorem spEI2_len {C : Addr} {f1 f2 : Str} {vs : List V} {H : Hp} {Q : VK} {E : XK} (h : spEI2 C f1 f2 vs H Q E) : vs.length = 3 := by
  obtain ⟨_, _, _, rfl, _⟩ := h
  rfl
theorem ei1_body {K : PySem.W.Frag} {C : Addr} {f1 txt : Str} {n0 n1 : Str} {vs : List V} {H : Hp} {Q : VK} {E : XK} (T : OexC K C) (h1 : PySem.W.findIn K (.ref C) f1 = some none) (h : spEI1 C f1 vs H Q E) :
    tSeq (tDrop (tVeI K (tCons (tVar 0) (tCons (tC (.str txt)) tNil)))) (tSeq (tOst K f1 (tVar 0) (tVar 1)) tNext) { nx := fun _ H' => Q .non H', rt := Q } (start [n0, n1] vs) H := by
  obtain ⟨p, y, rfl, hp, k⟩ := h
  refine ⟨_, rfl, p, C, _, rfl, by simp, T, hp, ?_⟩
  refine ⟨_, rfl, _, rfl, p, C, rfl, T, h1, .inl ⟨hp, fun dx hd ne => ?_⟩⟩
  refine k dx _ hd ne (fun b b1 b2 => ?_) upd_same ?_
  · rw [upd_ne b1, upd_ne b2]
  · rw [upd_ne ne, upd_same]
theorem ei2_body {K : PySem.W.Frag} {C : Addr} {f1 f2 txt : Str} {n0 n1 n2 : Str} {vs : List V} {H : Hp} {Q : VK} {E : XK} (T : OexC K C) (h1 : PySem.W.findIn K (.ref C) f1 = some none) (h2 : PySem.W.findIn K (.ref C) f2 = some none) (h : spEI2 C f1 f2 vs H Q E) :
    tSeq (tDrop (tVeI K (tCons (tVar 0) (tCons (tC (.str txt)) tNil)))) (tSeq (tOst K f1 (tVar 0) (tVar 1)) (tSeq (tOst K f2 (tVar 0) (tVar 2)) tNext)) { nx := fun _ H' => Q .non H', rt := Q } (start [n0, n1, n2] vs) H := by
  obtain ⟨p, y, z, rfl, hp, k⟩ := h
  refine ⟨_, rfl, p, C, _, rfl, by simp, T, hp, ?_⟩
  refine ⟨_, rfl, _, rfl, p, C, rfl, T, h1, .inl ⟨hp, fun dx hd ne => ?_⟩⟩
  refine ⟨_, rfl, _, rfl, p, C, rfl, T, h2, .inr ⟨dx, _, upd_same, by rw [upd_ne ne, upd_same], by simp, ?_⟩⟩
  refine k dx _ hd ne (fun b b1 b2 => ?_) ?_ upd_same
  · rw [upd_ne b2, upd_ne b1, upd_ne b2]
  · rw [upd_ne (Ne.symm ne), upd_same]
end VX

set_option Elab.async false
set_option linter.all false
set_option maxRecDepth 100000
set_option maxHeartbeats 4000000
namespace VC
open PySem PySem.Spec L2 VX
/-! ### exceptions as typed values: the class's place in the table, its fields -/
abbrev Exn := Nat × List Int
abbrev ExTab := List (Addr × List Str)
def FsE (ns : List Str) (xs : List Int) (fs : List (Str × V)) : Prop := ∀ (k : Nat) (n : Str) (x : Int), ns[k]? = some n → xs[k]? = some x → fs.lookup n = some (.int x)
def ExAt (L : ExTab) (Hv : Hp) (e : Exn) (cls : Value) (d : Option Addr) : Prop := ∃ C ns, L[e.1]? = some (C, ns) ∧ cls = .ref C ∧ (ns = [] → d = none) ∧ (ns ≠ [] → ∃ dd fs, d = some dd ∧ Hv dd = some (.xd fs) ∧ FsE ns e.2 fs)
theorem ExAt.up {L : ExTab} {H H' : Hp} {e : Exn} {cls : Value} {d : Option Addr} (s : Same H H') : ExAt L H e cls d → ExAt L H' e cls d
  | ⟨C, ns, h1, h2, h3, h4⟩ => ⟨C, ns, h1, h2, h3, fun n => let ⟨dd, fs, e1, e2, e3⟩ := h4 n; ⟨dd, fs, e1, s _ _ e2, e3⟩⟩
theorem ExAt.dic {L : ExTab} {H : Hp} {e : Exn} {cls : Value} {d : Option Addr} : ExAt L H e cls d → DicOk H d
  | ⟨C, ns, h1, h2, h3, h4⟩ => fun dd q => by
    by_cases n : ns = []
    · rw [h3 n] at q
      cases q
    · obtain ⟨dd', fs, e1, e2, _⟩ := h4 n
      rw [e1] at q
      cases q
      exact ⟨fs, e2⟩
def tEx (L : ExTab) : Ty Exn := ⟨fun H v e => ∃ a cls d, v = .ref a ∧ H a = some (ExV cls d a) ∧ ExAt L H e cls d, fun s ⟨a, cls, d, e, h, x⟩ => ⟨a, cls, d, e, s _ _ h, x.up s⟩⟩
section
variable {B B0 : Bs} {Γ : Cxt} {α β γ : Type} {τ : Ty α} {υ : Ty β} {φ : Ty γ} {x : α} {D : Ends} {K : PySem.W.Frag} {L : ExTab} {W Wout : WX} {e : Exn} {u : TS} {i : Nat}
/-- what is wished of the error e, from here -/
def XOut (L : ExTab) (B : Bs) (Γ : Cxt) (W : WX) (e : Exn) : Prop := ∀ (σ : L2.St) (Hv H : Hp) (cls : Value) (d : Option Addr), Wd B Γ σ Hv H → ExAt L Hv e cls d → W cls d σ H
/-- an expression that may raise -/
def SmX (L : ExTab) (B : Bs) (Γ : Cxt) (t : TE) (τ : Ty α) (r : Except Exn α) (W : WX) : Prop := ∀ (σ : L2.St) (Hv H : Hp), Wd B Γ σ Hv H → ∀ Q : VK,
  (∀ y, r = .ok y → ∀ v Hv' H', Grow Hv H Hv' H' → τ.rep Hv' v y → Q v H') → (∀ e, r = .error e → ∀ cls d Hv' H', Grow Hv H Hv' H' → ExAt L Hv' e cls d → W cls d σ H') → t σ H Q
def SmXO (L : ExTab) (B : Bs) (Γ : Cxt) (t : TE) (τ : Ty α) (r : Except Exn (List α)) (W : WX) : Prop := ∀ (σ : L2.St) (Hv H : Hp), Wd B Γ σ Hv H → ∀ Q : VK,
  (∀ ys, r = .ok ys → ∀ l vs Hv' H', Grow Hv H Hv' H' → H l = none → H' l = some (.lst vs) → Hv' l = none → Paired (τ.rep Hv') vs ys → Q (.ref l) H') → (∀ e, r = .error e → ∀ cls d Hv' H', Grow Hv H Hv' H' → ExAt L Hv' e cls d → W cls d σ H') → t σ H Q
/-- it raises nothing here -/
theorem sm_ofX {t : TE} {r : Except Exn α} (h : SmX L B Γ t τ r W) (hr : r = .ok x) : Sm B Γ t τ x := fun σ Hv H w Q k => h σ Hv H w Q (fun y q v Hv' H' g rr => by
  rw [hr] at q
  cases q
  exact k v Hv' H' g rr) (fun e q => by rw [hr] at q; cases q)
theorem smo_ofX {t : TE} {r : Except Exn (List α)} {xs : List α} (h : SmXO L B Γ t τ r W) (hr : r = .ok xs) : SmO B Γ t τ xs := fun σ Hv H w Q k => h σ Hv H w Q (fun y q l vs Hv' H' g e0 e1 e2 rr => by
  rw [hr] at q
  cases q
  exact k l vs Hv' H' g e0 e1 e2 rr) (fun e q => by rw [hr] at q; cases q)
theorem SmXO.toX {t : TE} {r : Except Exn (List α)} (h : SmXO L B Γ t τ r W) : SmX L B Γ t (tList τ) r W := fun σ Hv H w Q k kx => h σ Hv H w Q (fun ys q l vs Hv' H' g h0 h1 h2 rr => by
  obtain ⟨s1, s2⟩ := Grow.see g.vis h1 h2
  refine k ys q _ (upd Hv' l (.lst vs)) H' ⟨g.s, Same.trans g.v s1, s2, fun b n z => ?_⟩ ⟨l, vs, rfl, upd_same, Paired.up s1 rr⟩
  have hb : b ≠ l := fun q => n (q ▸ h0)
  rw [upd_ne hb]
  exact g.nw b n z) kx
theorem g_asgX {te : TE} {r : Except Exn α} (hi : i < B.n) (he : SmX L B Γ te τ r W) (h1 : ∀ y, r = .ok y → G B u (put i (.fz τ y) Γ) D) (h2 : ∀ e, r = .error e → XOut L B Γ W e) : G B (tSeq (tAsg te (gName i)) u) Γ D := fun σ Hv H w =>
  he σ Hv H w _ (fun y q v Hv1 H1 g1 r1 => h1 y q _ Hv1 H1 ((w.grow g1).put i hi r1)) (fun e q cls d Hv1 H1 g1 x => h2 e q σ Hv1 H1 cls d (w.grow g1) x)
theorem g_asgXO {te : TE} {r : Except Exn (List α)} (hi : i < B.n) (he : SmXO L B Γ te τ r W) (h1 : ∀ ys, r = .ok ys → G B u (put i (.cl τ ys) Γ) D) (h2 : ∀ e, r = .error e → XOut L B Γ W e) : G B (tSeq (tAsg te (gName i)) u) Γ D := fun σ Hv H w =>
  he σ Hv H w _ (fun xs q l vs Hv1 H1 g1 e0 e1 e2 r1 => by
    have w1 := w.grow g1
    refine h1 xs q _ Hv1 H1 (w1.putO i hi ⟨e1, e2, ?_, fun j e m c s => ?_⟩ r1)
    · cases q : B.H0 l with
      | none => exact .inl rfl
      | some o => exact absurd e0 (w.a0 l (by rw [q]; exact fun z => nomatch z))
    · cases e with
      | cl τ' zs =>
        obtain ⟨l', ws, h1, h2, _⟩ := w.ent j _ m
        rw [s] at h1
        cases h1
        rw [e0] at h2
        cases h2
      | ob l' dx C as =>
        obtain ⟨fs, h1, h2, _⟩ := w.ent j _ m
        rw [s] at h1
        cases h1
        rw [e0] at h2
        cases h2
      | fz => cases c
      | gh => cases c) (fun e q cls d Hv1 H1 g1 x => h2 e q σ Hv1 H1 cls d (w.grow g1) x)
theorem g_dropX {te : TE} {r : Except Exn α} (he : SmX L B Γ te τ r W) (h1 : ∀ y, r = .ok y → G B u Γ D) (h2 : ∀ e, r = .error e → XOut L B Γ W e) : G B (tSeq (tDrop te) u) Γ D := fun σ Hv H w =>
  he σ Hv H w _ (fun y q v Hv1 H1 g1 r1 => h1 y q _ Hv1 H1 (w.grow g1)) (fun e q cls d Hv1 H1 g1 x => h2 e q σ Hv1 H1 cls d (w.grow g1) x)
theorem g_retX {te : TE} {r : Except Exn α} {f : α → β → Prop} {y : β} (l : Le B0 B) (R : ∀ y, r = .ok y → RtF B0 τ y D.rt) (he : SmX L B Γ te τ r W) (h2 : ∀ e, r = .error e → XOut L B Γ W e) : G B (tSeq (tRet te) u) Γ D := fun σ Hv H w =>
  he σ Hv H w _ (fun y q v Hv1 H1 g1 r1 => (R y q).run v Hv1 H1 (((w.grow g1).down l).gr (R y q).no) r1) (fun e q cls d Hv1 H1 g1 x => h2 e q σ Hv1 H1 cls d (w.grow g1) x)
/-! ### raise -/
def SmR (L : ExTab) (B : Bs) (Γ : Cxt) (t : L2.St → Hp → XK → Prop) (e : Exn) : Prop := ∀ (σ : L2.St) (Hv H : Hp), Wd B Γ σ Hv H → ∀ Q : XK, (∀ cls d Hv' H', Grow Hv H Hv' H' → ExAt L Hv' e cls d → Q cls d H') → t σ H Q
def tRs (W : WX) (t : L2.St → Hp → XK → Prop) : TS := fun _ σ H => t σ H fun cls d H' => W cls d σ H'
theorem ps_rs {X : Cx} {W : WX} {e : Expr} {t : L2.St → Hp → XK → Prop} {pos : Pos} (hc : X.calm = true) (tk : Takes X W) (he : PMk X e t) : PS X (.Raise (some e) none pos) (tRs W t) := ps_raise hc tk he
theorem g_raise {t : L2.St → Hp → XK → Prop} (h : SmR L B Γ t e) (h2 : XOut L B Γ W e) : G B (tSeq (tRs W t) u) Γ D := fun σ Hv H w =>
  h σ Hv H w _ fun cls d Hv1 H1 g1 x => h2 σ Hv1 H1 cls d (w.grow g1) x
theorem smr_own {C : Addr} {k : Nat} (hk : L[k]? = some (C, [])) : SmR L B Γ (fun _ H Q => Q (.ref C) none H) (k, []) := fun σ Hv H w Q q => q _ _ _ _ (Grow.refl w.vis) ⟨C, [], hk, rfl, fun _ => rfl, fun n => absurd rfl n⟩
theorem oex_heap {H1 H2 : Hp} {p d : Addr} {o1 o2 : HO} {fs : List (Str × V)} (hp : H1 p = none) (hd : H1 d = none) (ne : d ≠ p) (k : ∀ b, b ≠ p → b ≠ d → H2 b = upd H1 p o1 b) : upd (L2.del H2 p) d (.xd fs) = upd H1 d (.xd fs) := by
  funext b
  by_cases hb : b = d
  · subst hb
    rw [upd_same, upd_same]
  · rw [upd_ne hb, upd_ne hb]
    by_cases hbp : b = p
    · subst hbp
      rw [del_same, hp]
    · rw [del_ne hbp, k b hbp hb, upd_ne hbp]
theorem smr_oex1 {C : Addr} {k : Nat} {f1 : Str} {t1 : TE} {x1 : Int} (hk : L[k]? = some (C, [f1])) (ha : Sm B Γ t1 tInt x1) : SmR L B Γ (tMkO C (spEI1 C f1) [] (tCons t1 tNil)) (k, [x1]) := fun σ Hv H w Q q =>
  ha σ Hv H w _ fun v Hv1 H1 g1 r1 => by
    cases r1
    refine ⟨by simp, fun p hp => ?_⟩
    refine ⟨p, .int x1, rfl, upd_same, fun dx H2 hd ne hb hp2 hd2 => ⟨rfl, dx, _, hp2, hd2, by rw [upd_ne ne] at hd; exact hd, ?_⟩⟩
    rw [upd_ne ne] at hd
    rw [oex_heap (o2 := .own 0) hp hd ne hb]
    refine q _ _ _ _ (g1.trans (Grow.new g1.vis hd)) ⟨C, [f1], hk, rfl, fun z => (nomatch z), fun _ => ⟨dx, _, rfl, upd_same, fun j n x h1 h2 => ?_⟩⟩
    match j, h1, h2 with
    | 0, h1, h2 =>
      cases h1
      cases h2
      simp [List.lookup]
    | j + 1, h1, h2 => simp at h1
theorem smr_oex2 {C : Addr} {k : Nat} {f1 f2 : Str} {t1 t2 : TE} {x1 x2 : Int} (hk : L[k]? = some (C, [f1, f2])) (hne : (f1 == f2) = false) (ha : Sm B Γ t1 tInt x1) (hb : Sm B Γ t2 tInt x2) : SmR L B Γ (tMkO C (spEI2 C f1 f2) [] (tCons t1 (tCons t2 tNil))) (k, [x1, x2]) := fun σ Hv H w Q q =>
  ha σ Hv H w _ fun v Hv1 H1 g1 r1 => hb σ Hv1 H1 (w.grow g1) _ fun v' Hv2 H2 g2 r2 => by
    cases r1
    cases r2
    refine ⟨by simp, fun p hp => ?_⟩
    refine ⟨p, .int x1, .int x2, rfl, upd_same, fun dx H3 hd ne hb hp2 hd2 => ⟨rfl, dx, _, hp2, hd2, by rw [upd_ne ne] at hd; exact hd, ?_⟩⟩
    rw [upd_ne ne] at hd
    rw [oex_heap (o2 := .own 0) hp hd ne hb]
    refine q _ _ _ _ ((g1.trans g2).trans (Grow.new g2.vis hd)) ⟨C, [f1, f2], hk, rfl, fun z => (nomatch z), fun _ => ⟨dx, _, rfl, upd_same, fun j n x h1 h2 => ?_⟩⟩
    match j, h1, h2 with
    | 0, h1, h2 =>
      cases h1
      cases h2
      simp [List.lookup, hne]
    | 1, h1, h2 =>
      cases h1
      cases h2
      simp [List.lookup]
    | j + 2, h1, h2 => simp at h1
/-! ### try -/
theorem g_try {tb : WX → TS} {c : Value} {ts : TS} (h : G B (tSeq (tb (wAsV K c i ts Wout { D with nx := u D })) u) Γ D) : G B (tSeq (tTry K c i ts Wout tb) u) Γ D := h
def goneD (i : Nat) (u : TS) (D0 : Ends) : Ends := { nx := fun σ' H' => u D0 (σ'.set i none) H', rt := D0.rt, bk := fun σ' H' => D0.bk (σ'.set i none) H', ct := fun σ' H' => D0.ct (σ'.set i none) H' }
theorem xout_as {c : Value} {ts : TS} {C : Addr} {ns : List Str} {D0 : Ends} (hk : L[e.1]? = some (C, ns)) (hc : PySem.W.exmOne K (.ref C) c = some true) (hi : i < B.n)
    (h : G B ts (put i (.fz (tEx L) e) Γ) (goneD i u D0)) : XOut L B Γ (wAsV K c i ts Wout { D0 with nx := u D0 }) e := fun σ Hv H cls d w x => by
  obtain ⟨C', ns', h1, h2, h3⟩ := id x
  rw [hk] at h1
  cases h1
  subst h2
  exact ⟨true, hc, fun _ a na => h _ (upd Hv a (ExV (.ref C) d a)) _ ((w.grow (Grow.new w.vis na)).put i hi ⟨a, _, d, rfl, upd_same, x.up (same_upd (Same.free w.vis na))⟩), fun z => nomatch z⟩
theorem xout_not {c : Value} {ts : TS} {C : Addr} {ns : List Str} (hk : L[e.1]? = some (C, ns)) (hc : PySem.W.exmOne K (.ref C) c = some false) (h : XOut L B Γ Wout e) : XOut L B Γ (wAsV K c i ts Wout D) e := fun σ Hv H cls d w x => by
  obtain ⟨C', ns', h1, h2, h3⟩ := id x
  rw [hk] at h1
  cases h1
  subst h2
  exact ⟨false, hc, (fun z => nomatch z), fun _ => h σ Hv H _ d w x⟩
theorem g_gone {D0 : Ends} (h : G B u (del i Γ) D0) : G B tNext Γ (goneD i u D0) := fun σ Hv H w => h _ Hv H (w.forget i none)
/-! ### what leaves a def -/
structure RtX (L : ExTab) (B0 : Bs) (τ : Ty α) (r : Except Exn α) (Q : VK) (E : XK) : Prop where
  no : ∀ b, ¬ B0.own b
  ok_ : ∀ y, r = .ok y → ∀ v Hv H, Grow B0.Hv0 B0.H0 Hv H → τ.rep Hv v y → Q v H
  er_ : ∀ e, r = .error e → ∀ cls d Hv H, Grow B0.Hv0 B0.H0 Hv H → ExAt L Hv e cls d → E cls d H
structure RtXO (L : ExTab) (B0 : Bs) (τ : Ty α) (r : Except Exn (List α)) (Q : VK) (E : XK) : Prop where
  no : ∀ b, ¬ B0.own b
  ok_ : ∀ ys, r = .ok ys → ∀ l vs Hv H, Grow B0.Hv0 B0.H0 Hv H → B0.H0 l = none → H l = some (.lst vs) → Hv l = none → Paired (τ.rep Hv) vs ys → Q (.ref l) H
  er_ : ∀ e, r = .error e → ∀ cls d Hv H, Grow B0.Hv0 B0.H0 Hv H → ExAt L Hv e cls d → E cls d H
variable {Q : VK} {E : XK}
theorem RtX.ok {r : Except Exn α} {y : α} (R : RtX L B0 τ r Q E) (h : r = .ok y) : RtF B0 τ y Q := ⟨R.no, R.ok_ y h⟩
theorem RtXO.ok {r : Except Exn (List α)} {ys : List α} (R : RtXO L B0 τ r Q E) (h : r = .ok ys) : RtO B0 τ ys Q := ⟨R.no, R.ok_ ys h⟩
theorem RtX.er {r : Except Exn α} (l : Le B0 B) (R : RtX L B0 τ r Q E) (h : r = .error e) : XOut L B Γ (fun cls d _ H => E cls d H) e := fun _ Hv H cls d w x => R.er_ e h cls d Hv H ((w.down l).gr R.no) x
theorem RtXO.er {r : Except Exn (List α)} (l : Le B0 B) (R : RtXO L B0 τ r Q E) (h : r = .error e) : XOut L B Γ (fun cls d _ H => E cls d H) e := fun _ Hv H cls d w x => R.er_ e h cls d Hv H ((w.down l).gr R.no) x
/-- what an __init__ that may raise is to leave -/
structure RtIX {δ : Type} (L : ExTab) (B0 : Bs) (p dx C : Addr) (sch : δ → List (Str × As)) (r : Except Exn δ) (Q : VK) (E : XK) : Prop where
  ow : ∀ b, B0.own b → b = p
  ok_ : ∀ y, r = .ok y → RtI B0 p dx C (sch y) Q
  er_ : ∀ e, r = .error e → ∀ cls d Hv H, (∀ b o, b ≠ p → B0.H0 b = some o → H b = some o) → Same B0.Hv0 Hv → Same Hv H → (∀ b, b ≠ p → B0.H0 b ≠ none → B0.Hv0 b = none → Hv b = none) → ExAt L Hv e cls d → E cls d H
theorem RtIX.ok {δ : Type} {sch : δ → List (Str × As)} {p dx C : Addr} {r : Except Exn δ} {y : δ} (R : RtIX L B0 p dx C sch r Q E) (h : r = .ok y) : RtI B0 p dx C (sch y) Q := R.ok_ y h
theorem RtIX.er {δ : Type} {sch : δ → List (Str × As)} {p dx C : Addr} {r : Except Exn δ} (l : Le B0 B) (R : RtIX L B0 p dx C sch r Q E) (h : r = .error e) : XOut L B Γ (fun cls d _ H => E cls d H) e := fun _ Hv H cls d w x =>
  have w' := w.down l
  R.er_ e h cls d Hv H (fun b o hb q => w'.s0 b o (fun z => hb (R.ow b z)) q) w'.v0 w'.vis (fun b hb n z => w'.nw b (fun z => hb (R.ow b z)) n z) x
/-! ### isinstance, fields -/
theorem sm_isV {t tc : TE} {D : Addr} {ns : List Str} {cv : Value} {c : V} {b : Bool} (h : Sm B Γ t (tEx L) e) (hk : L[e.1]? = some (D, ns)) (T : VX.ExcC K D) (ht : tc = tC c) (hcv : ∀ u, RelV c u → u = cv) (hb : PySem.W.kitOne K (.ref D) cv = some b) : Sm B Γ (tCB (rIsV K) (tCons t (tCons tc tNil))) tBool b := fun σ Hv H w Q q => by
  subst ht
  refine h σ Hv H w _ fun v Hv1 H1 g1 ⟨a, cls, d, ev, ha, x⟩ => ?_
  obtain ⟨C', ns', h1, h2, h3⟩ := id x
  rw [hk] at h1
  cases h1
  subst h2
  refine ⟨a, D, d, c, cv, b, by rw [ev], g1.vis _ _ ha, fun dd z => ?_, T, hcv, hb, q _ _ _ g1 rfl⟩
  obtain ⟨fs, hf⟩ := x.dic dd z
  exact ⟨fs, g1.vis _ _ hf⟩
/-- isinstance(e, (C1, C2, ..)) -/
inductive ClsL : TA → List Addr → Prop
  | nil : ClsL tNil []
  | cons {C : Addr} {t : TA} {cs : List Addr} : ClsL t cs → ClsL (tCons (tC (.ref C)) t) (C :: cs)
theorem ClsL.run {t : TA} {cs : List Addr} (h : ClsL t cs) : ∀ (σ : L2.St) (H : Hp) (Q : List V → Hp → Prop), Q (cs.map V.ref) H → t σ H Q := by
  induction h with
  | nil => exact fun σ H Q q => q
  | cons _ ih => exact fun σ H Q q => ih σ H _ q
theorem sm_isT {t : TE} {tt : TA} {D : Addr} {ns : List Str} {cs : List Addr} {b : Bool} (h : Sm B Γ t (tEx L) e) (hk : L[e.1]? = some (D, ns)) (T : VX.ExcC K D) (hc : ClsL tt cs) (hl : cs.length ≤ 1000) (hb : PySem.W.kitAny K (.ref D) (cs.map Value.ref) = some b) :
    Sm B Γ (tCB (rIsT K) (tCons t (tCons (tTup tt) tNil))) tBool b := fun σ Hv H w Q q => by
  refine h σ Hv H w _ fun v Hv1 H1 g1 ⟨a, cls, d, ev, ha, x⟩ => ?_
  obtain ⟨C', ns', h1, h2, h3⟩ := id x
  rw [hk] at h1
  cases h1
  subst h2
  refine hc.run σ H1 _ ⟨by rw [List.length_map, sizeLine_eq]; omega, fun p hp => ?_⟩
  have hne : Same H1 (upd H1 p (.tup (cs.map V.ref))) := same_upd hp
  refine ⟨a, D, p, d, cs, b, by rw [ev], hne _ _ (g1.vis _ _ ha), fun dd z => ?_, T, upd_same, hb, q _ _ _ (g1.trans (Grow.new g1.vis hp)) rfl⟩
  obtain ⟨fs, hf⟩ := x.dic dd z
  exact ⟨fs, hne _ _ (g1.vis _ _ hf)⟩
/-- e.f -/
theorem sm_xf {t : TE} {D : Addr} {ns : List Str} {f : Str} {j : Nat} {y : Int} (h : Sm B Γ t (tEx L) e) (hk : L[e.1]? = some (D, ns)) (T : VX.ExcC K D) (hno : PySem.W.findIn K (.ref D) f = some none) (hj : ns[j]? = some f) (hy : e.2[j]? = some y) : Sm B Γ (tXfV K f t) tInt y := fun σ Hv H w Q q => by
  refine h σ Hv H w _ fun v Hv1 H1 g1 ⟨a, cls, d, ev, ha, x⟩ => ?_
  obtain ⟨C', ns', h1, h2, h3, h4⟩ := id x
  rw [hk] at h1
  cases h1
  subst h2
  obtain ⟨dd, fs, e1, e2, e3⟩ := h4 (fun z => by rw [z] at hj; cases hj)
  subst e1
  exact ⟨a, D, dd, fs, _, ev, g1.vis _ _ ha, T, hno, g1.vis _ _ e2, e3 j f y hj hy, q _ _ _ g1 rfl⟩
/-! ### a class known beforehand; None; what is not None -/
def tExS (L : ExTab) (k : Nat) : Ty (List Int) := ⟨fun H v xs => (tEx L).rep H v (k, xs), fun s h => (tEx L).mono s h⟩
theorem ex_dyn {t : TE} {k : Nat} {xs : List Int} (h : Sm B Γ t (tExS L k) xs) : Sm B Γ t (tEx L) (k, xs) := h
theorem ex_sta {t : TE} {k : Nat} {xs : List Int} (h : Sm B Γ t (tEx L) (k, xs)) : Sm B Γ t (tExS L k) xs := h
theorem nn_int {H : Hp} {v : V} {x : Int} (h : tInt.rep H v x) : v ≠ .non := fun z => by cases h; cases z
theorem nn_bool {H : Hp} {v : V} {x : Bool} (h : tBool.rep H v x) : v ≠ .non := fun z => by cases h; cases z
theorem nn_str {H : Hp} {v : V} {x : Str} (h : tStr.rep H v x) : v ≠ .non := fun z => by cases h; cases z
theorem nn_list {H : Hp} {v : V} {x : List α} (h : (tList τ).rep H v x) : v ≠ .non := fun z => by obtain ⟨_, _, rfl, _⟩ := h; cases z
theorem nn_tup {H : Hp} {v : V} {x : α × β} (h : (tTup2 τ υ).rep H v x) : v ≠ .non := fun z => by obtain ⟨_, _, _, rfl, _⟩ := h; cases z
theorem nn_obj {C : Addr} {sch : α → List (Str × As)} {H : Hp} {v : V} {x : α} (h : (tObj C sch).rep H v x) : v ≠ .non := fun z => by obtain ⟨_, _, _, rfl, _⟩ := h; cases z
theorem nn_ex {H : Hp} {v : V} {x : Exn} (h : (tEx L).rep H v x) : v ≠ .non := fun z => by obtain ⟨_, _, _, rfl, _⟩ := h; cases z
theorem nn_exs {k : Nat} {H : Hp} {v : V} {x : List Int} (h : (tExS L k).rep H v x) : v ≠ .non := fun z => by obtain ⟨_, _, _, rfl, _⟩ := h; cases z
theorem sm_some {t : TE} (h : Sm B Γ t τ x) (n : ∀ {H : Hp} {v : V} {x : α}, τ.rep H v x → v ≠ .non) : Sm B Γ t (tOpt τ) (some x) := fun σ Hv H w Q k => h σ Hv H w _ fun v Hv1 H1 g1 r1 => k v Hv1 H1 g1 ⟨n r1, r1⟩
theorem sm_get {t : TE} {o : Option α} (h : Sm B Γ t (tOpt τ) o) (e : o = some x) : Sm B Γ t τ x := fun σ Hv H w Q k => h σ Hv H w _ fun v Hv1 H1 g1 r1 => by
  subst e
  exact k v Hv1 H1 g1 r1.2
theorem sm_isNU {t : TE} {y : Unit} (h : Sm B Γ t tNon y) : Sm B Γ (tOp (fun x y H Q => y = .non ∧ Q (.bl (decide (x = .non))) H) t (tC .non)) tBool true := fun σ Hv H w Q k => h σ Hv H w _ fun v Hv1 H1 g1 r1 => by
  cases r1
  exact ⟨rfl, k _ Hv1 H1 g1 (congrArg V.bl (decide_eq_true rfl))⟩
theorem sm_isNX {t : TE} (h : Sm B Γ t τ x) (n : ∀ {H : Hp} {v : V} {x : α}, τ.rep H v x → v ≠ .non) : Sm B Γ (tOp (fun x y H Q => y = .non ∧ Q (.bl (decide (x = .non))) H) t (tC .non)) tBool false := fun σ Hv H w Q k => h σ Hv H w _ fun v Hv1 H1 g1 r1 =>
  ⟨rfl, k _ Hv1 H1 g1 (congrArg V.bl (decide_eq_false (n r1)))⟩
theorem sm_notNU {t : TE} {y : Unit} (h : Sm B Γ t tNon y) : Sm B Γ (tOp (fun x y H Q => y = .non ∧ Q (.bl (!decide (x = .non))) H) t (tC .non)) tBool false := fun σ Hv H w Q k => h σ Hv H w _ fun v Hv1 H1 g1 r1 => by
  cases r1
  exact ⟨rfl, k _ Hv1 H1 g1 (congrArg V.bl (by rw [decide_eq_true rfl]; rfl))⟩
theorem sm_notNX {t : TE} (h : Sm B Γ t τ x) (n : ∀ {H : Hp} {v : V} {x : α}, τ.rep H v x → v ≠ .non) : Sm B Γ (tOp (fun x y H Q => y = .non ∧ Q (.bl (!decide (x = .non))) H) t (tC .non)) tBool true := fun σ Hv H w Q k => h σ Hv H w _ fun v Hv1 H1 g1 r1 =>
  ⟨rfl, k _ Hv1 H1 g1 (congrArg V.bl (by rw [decide_eq_false (n r1)]; rfl))⟩
theorem rel_ref {C : Addr} (u : Value) (h : RelV (.ref C) u) : u = .ref C := h
theorem rel_ty {T : String} (u : Value) (h : RelV (.ty T) u) : u = .type T := h
theorem kit_ve {D : Addr} {b : Bool} (h : PySem.W.subIn K (.ref D) (.type "ValueError") = some b) : PySem.W.kitOne K (.ref D) (.type "ValueError") = some b := by
  unfold PySem.W.kitOne
  rw [if_neg (by simp)]
  exact h
theorem kit_of {D C : Addr} {b : Bool} (T : VX.ExcC K C) (s : PySem.W.subIn K (.ref D) (.ref D) = some true) (p : PySem.W.subIn K (.ref D) (.ref C) = some b) : PySem.W.kitOne K (.ref D) (.ref C) = some b := by
  unfold PySem.W.kitOne
  by_cases e : D = C
  · subst e
    rw [s] at p
    cases p
    simp
  · rw [if_neg (by simpa using e)]
    show (if ((PySem.W.clsIn K C).isSome && PySem.W.typeIn K (.ref C) == some (.type "type")) = true then PySem.W.subIn K (.ref D) (.ref C) else none) = some b
    rw [if_pos (by rw [T.cl, T.ty] <;> rfl)]
    exact p
theorem kita_nil {D : Addr} : PySem.W.kitAny K (.ref D) (([] : List Addr).map Value.ref) = some false := rfl
theorem kita_t {D C : Addr} {cs : List Addr} (h : PySem.W.kitOne K (.ref D) (.ref C) = some true) : PySem.W.kitAny K (.ref D) ((C :: cs).map Value.ref) = some true := by
  show (match PySem.W.kitOne K (.ref D) (.ref C) with | some true => some true | some false => PySem.W.kitAny K (.ref D) (cs.map Value.ref) | none => none) = _
  rw [h]
theorem kita_f {D C : Addr} {cs : List Addr} {b : Bool} (h : PySem.W.kitOne K (.ref D) (.ref C) = some false) (r : PySem.W.kitAny K (.ref D) (cs.map Value.ref) = some b) : PySem.W.kitAny K (.ref D) ((C :: cs).map Value.ref) = some b := by
  show (match PySem.W.kitOne K (.ref D) (.ref C) with | some true => some true | some false => PySem.W.kitAny K (.ref D) (cs.map Value.ref) | none => none) = _
  rw [h]
  exact r
end
end VC
namespace VX
open PySem PySem.Spec L2
theorem exm_of {K : PySem.W.Frag} {D C : Addr} {b : Bool} (hc : PySem.W.isClsIn K C = true) (hs : PySem.W.subIn K (.ref C) (.type "BaseException") = some true) (ht : PySem.W.typeIn K (.ref C) = some (.type "type")) (p : PySem.W.subIn K (.ref D) (.ref C) = some b) : PySem.W.exmOne K (.ref D) (.ref C) = some b := by
  have e2 : ((PySem.W.clsIn K C).isSome && PySem.W.typeIn K (.ref C) == some (.type "type")) = true := by
    have h2' : (PySem.W.clsIn K C).isSome = true := hc
    rw [h2', ht] <;> rfl
  show (if (PySem.W.subIn K (.ref C) (.type "BaseException") == some true) = true then (if ((PySem.W.clsIn K C).isSome && PySem.W.typeIn K (.ref C) == some (.type "type")) = true then PySem.W.subIn K (.ref D) (.ref C) else none) else none) = some b
  rw [if_pos (by rw [hs] <;> rfl), if_pos e2]
  exact p
end VX

set_option Elab.async false
set_option linter.all false
set_option maxRecDepth 100000
set_option maxHeartbeats 4000000
namespace VX
open PySem PySem.Spec PyProof.Rows L2
section
variable {X : Cx} {CX : CXT} {k : Nat} {f C : Addr} {fd : FuncData} {ps : List Str} {sp : Sp} {dvs : List V} {ds : List Value} {E : L2.St → XK} {x m : Str} {p pos apos : Pos} {e o : Expr} {es : List Expr} {ta : TE} {t : TA}
theorem pe_call0S (F : FnOk X.prog X.w X.K X.mg X.base CX k f fd ps sp) (hr : Room k X.A) (hg : Gl X x) (hm : X.mg x = some (.ref f)) (hk : PySem.W.keepIn X.K (.ref f) = true) (hb : Binds X.K fd ps ds) (hd : Vals dvs ds) (hx : ∀ σ, PassesAt CX X σ (E σ))
    (hdb : (x == ("__debug__" : Str)) = false := by decide) : PE X (.Call (.Name x p) [] [] pos) (tCallSD sp dvs E tNil) := by
  refine ⟨fun pins s σ H Q I h => ?_⟩
  refine wpAny_Call_Name_kw (ld_glob I hg hm ?_ hdb)
  exact PySem.W.callWith_K0 I.kIn hk (run_fnSD (us := []) F hr hb hd (hx σ) I .nil h)
def tMethS (C : Addr) (m : Str) (sp : Sp) (dvs : List V) (E : L2.St → XK) (ta : TE) (t : TA) : TE := fun σ H Q => ta σ H fun x H1 => ∃ a dx fs, x = .ref a ∧ H1 a = some (.ins C dx fs) ∧ fs.lookup m = none ∧
  t σ H1 fun vs H2 => sp (x :: (vs ++ dvs)) H2 Q (E σ)
theorem pe_methS {pl : Sem Bool} (he : PE X o ta) (c : Cls X.K C) (hm : Meth X.K C m f) (F : FnOk X.prog X.w X.K X.mg X.base CX k f fd ps sp) (hr : Room k X.A) (hb : Binds X.K fd ps ds) (hd : Vals dvs ds) (hx : ∀ σ, PassesAt CX X σ (E σ)) (ha : PA X (e :: es) t)
    (hst : starEach (e :: es) X.env = (false, eval e X.env) :: starEach es X.env := by rfl) (hpl : (backTo pos (starEach es X.env)).any (·.1) = false := by rfl)
    (ht : eval (.Call (.Attribute o m apos) (e :: es) [] pos) X.env = (do
      let ov ← eval o X.env
      standAt apos.atName
      let (f, first) ← holding [ov] (getMethod ov m pl)
      callWith pos f first (backTo pos (starEach (e :: es) X.env)) (backToKw pos (keywordEach [] X.env))) := by rfl) :
    PE X (.Call (.Attribute o m apos) (e :: es) [] pos) (tMethS C m sp dvs E ta t) := by
  refine ⟨fun pins s σ H Q I h => ?_⟩
  refine PySem.W.methodCall_KW (pl := pl) (thn (he.run pins s σ H _ I h) fun u s1 ⟨x, H1, I1, rx, a, dx, fs, ex, ea, l, q⟩ => ?_) ht
  subst ex
  obtain rfl : u = Value.ref a := rx
  refine getmeth_ok I1 ea c hm l ?_
  refine PySem.W.callWith_K (first := [.ref a]) (h₀ := X.base) I.ok.mod.kin hm.kp (thn (ha.run pos pins s1 σ H1 _ I1 q) fun us s2 ⟨vs, H2, I2, r, q2⟩ => ⟨I2.kIn, ?_⟩) hst hpl
  exact run_fnSD (us := .ref a :: us) (vs := .ref a :: vs) F hr hb hd (hx σ) I2 (.cons rfl r) q2
theorem pe_meth0S {pl : Sem Bool} (he : PE X o ta) (c : Cls X.K C) (hm : Meth X.K C m f) (F : FnOk X.prog X.w X.K X.mg X.base CX k f fd ps sp) (hr : Room k X.A) (hb : Binds X.K fd ps ds) (hd : Vals dvs ds) (hx : ∀ σ, PassesAt CX X σ (E σ))
    (ht : eval (.Call (.Attribute o m apos) [] [] pos) X.env = (do
      let ov ← eval o X.env
      standAt apos.atName
      let (f, first) ← holding [ov] (getMethod ov m pl)
      callWith pos f first (backTo pos (starEach [] X.env)) (backToKw pos (keywordEach [] X.env))) := by rfl) :
    PE X (.Call (.Attribute o m apos) [] [] pos) (tMethS C m sp dvs E ta tNil) := by
  refine ⟨fun pins s σ H Q I h => ?_⟩
  refine PySem.W.methodCall_KW (pl := pl) (thn (he.run pins s σ H _ I h) fun u s1 ⟨x, H1, I1, rx, a, dx, fs, ex, ea, l, q⟩ => ?_) ht
  subst ex
  obtain rfl : u = Value.ref a := rx
  refine getmeth_ok I1 ea c hm l ?_
  exact PySem.W.callWith_K0 (first := [.ref a]) I1.kIn hm.kp (run_fnSD (us := [.ref a]) (vs := [.ref a]) F hr hb hd (hx σ) I1 (.cons rfl .nil) q)
def tMakeS (C : Addr) (sp : Sp) (dvs : List V) (E : L2.St → XK) (t : TA) : TE := fun σ H Q => t σ H fun vs H1 => ∀ x dx, H1 x = none → H1 dx = none → dx ≠ x →
  sp (.ref x :: (vs ++ dvs)) (upd (upd H1 dx (.own x)) x (.ins C dx [])) (fun v H2 => v = .non ∧ Q (.ref x) H2) (E σ)
theorem run_makeS {pins : List (Addr × Obj)} {σ : L2.St} {H : Hp} {s : Shared} {Q : VK} {us : List Value} {vs : List V} (M : Mk X.K C f) (F : FnOk X.prog X.w X.K X.mg X.base CX k f fd ps sp) (hr : Room (k + 1) X.A) (hb : Binds X.K fd ps ds) (hd : Vals dvs ds)
    (hx : PassesAt CX X σ (E σ)) (I : Inv X pins σ H s) (r : Vals vs us)
    (h : ∀ x dx, H x = none → H dx = none → dx ≠ x → sp (.ref x :: (vs ++ dvs)) (upd (upd H dx (.own x)) x (.ins C dx [])) (fun v H2 => v = .non ∧ Q (.ref x) H2) (E σ)) :
    wpAny (model X.prog X.w) X.A (call (.ref C) us) (EP X pins σ Q) X.xe s := by
  have hq := h (s.heap.objs.size + 1) s.heap.objs.size (I.hok.fresh (Nat.le_succ _)) (I.hok.fresh (Nat.le_refl _)) (Nat.ne_of_lt (Nat.lt_succ_self _))
  have I2 := Inv.made (C := C) I
  have r2 : Vals (V.ref (s.heap.objs.size + 1) :: (vs ++ dvs)) (Value.ref (s.heap.objs.size + 1) :: (us ++ ds)) := .cons rfl (r.append hd)
  have hl : (Value.ref (s.heap.objs.size + 1) :: us ++ ds).length = ps.length := by
    have e := r2.length
    rw [F.len _ _ _ _ hq] at e
    exact e.symm
  refine wpAny_call (make_map (f := f) I.kIn M.makes M.init (beq_iff_eq.mp M.fn) (codeAny_mono (F.run _ X.stack _ _ ⟨Value.ref (s.heap.objs.size + 1) :: us, []⟩ (Value.ref (s.heap.objs.size + 1) :: (us ++ ds)) _ _ (E σ) (hr.make C us [])
    (I2.env0.make C us []) (hb _ (Value.ref (s.heap.objs.size + 1) :: us) I2.kIn hl) r2 hq) fun r s' hq' => ?_))
  cases r with
  | error e => exact hx pins _ _ e s' I2 hq'
  | ok fl =>
    cases fl with
    | ret u =>
      obtain ⟨v, H', I3, rv, ev, q3⟩ := I2.after hq'
      subst ev
      exact ⟨rv, ⟨V.ref (s.heap.objs.size + 1), H', I3, rfl, q3⟩⟩
    | next => exact False.elim hq'
    | brk => exact False.elim hq'
    | cont => exact False.elim hq'
theorem pe_makeS (M : Mk X.K C f) (F : FnOk X.prog X.w X.K X.mg X.base CX k f fd ps sp) (hr : Room (k + 1) X.A) (hg : Gl X x) (hm : X.mg x = some (.ref C)) (hb : Binds X.K fd ps ds) (hd : Vals dvs ds) (hx : ∀ σ, PassesAt CX X σ (E σ))
    (ha : PA X (e :: es) t) (hdb : (x == ("__debug__" : Str)) = false := by decide) (he : starEach (e :: es) X.env = (false, eval e X.env) :: starEach es X.env := by rfl) (hpl : (backTo pos (starEach es X.env)).any (·.1) = false := by rfl) :
    PE X (.Call (.Name x p) (e :: es) [] pos) (tMakeS C sp dvs E t) := by
  refine ⟨fun pins s σ H Q I h => ?_⟩
  refine wpAny_Call_Name_kw (ld_glob I hg hm ?_ hdb)
  refine PySem.W.callWith_K (h₀ := X.base) I.ok.mod.kin M.kp (thn (ha.run pos pins s σ H _ I h) fun us s1 ⟨vs, H1, I1, r, q⟩ => ⟨I1.kIn, ?_⟩) he hpl
  exact run_makeS M F hr hb hd (hx σ) I1 r q
end
end VX
namespace VC
open PySem PySem.Spec L2 VX
section
variable {B : Bs} {Γ : Cxt} {γ : Type} {φ : Ty γ} {H : Hp} {vs : List V} {Q : VK} {E : XK} {K : PySem.W.Frag} {L : ExTab} {W : WX}
def spX0  (L : ExTab)  (pre : Prop) (φ : Ty γ) (f : Except Exn γ) : Sp := fun vs H Q E => ∃ Hv, Same Hv H ∧ Reps Hv vs [] ∧ pre ∧ (∀ y, f = .ok y → ∀ v Hv' H', Grow Hv H Hv' H' → φ.rep Hv' v y → Q v H') ∧ ∀ e, f = .error e → ∀ cls d Hv' H', Grow Hv H Hv' H' → ExAt L Hv' e cls d → E cls d H'
theorem spX0_len   {pre : Prop} {f : Except Exn γ} (h : spX0 L pre φ f vs H Q E) : vs.length = 0 := by
  obtain ⟨_, _, r, _⟩ := h
  exact r.len
theorem spX0_body   {pre : Prop} {f : Except Exn γ} {N : List Str} {t : TS} (hl : 0 ≤ N.length) (h : spX0 L pre φ f vs H Q E) (hb : ∀ B0 : Bs, B0.n = N.length → pre → RtX L B0 φ (f) Q E → G B0 t [] { nx := fun _ H' => Q .non H', rt := Q }) : t { nx := fun _ H' => Q .non H', rt := Q } (L2.start N vs) H := by
  obtain ⟨Hv, vis, rs, p, k, kx⟩ := h
  exact hb ⟨H, Hv, fun _ => False, N.length⟩ rfl  p ⟨fun _ z => z, k, kx⟩ _ _ _ (wd_start vis rs hl)
theorem smx_call0   {pre : Prop} {f : Except Exn γ}  {t : TA} (ha : SmA B Γ t []) (hp : pre) : SmX L B Γ (tCallSD (spX0 L pre φ f) [] (WE W) t) φ (f) W := fun σ Hv H w Q k kx =>
  ha σ Hv H w _ fun us Hv1 H1 g1 rs => by
    show spX0 L pre φ f (us ++ []) H1 Q (WE W σ)
    rw [List.append_nil]
    exact ⟨Hv1, g1.vis, rs, hp, fun y q v Hv2 H2 g2 r2 => k y q _ _ _ (g1.trans g2) r2, fun e q cls d Hv2 H2 g2 x => kx e q cls d _ _ (g1.trans g2) x⟩
def spXO0  (L : ExTab)  (pre : Prop) (φ : Ty γ) (f : Except Exn (List γ)) : Sp := fun vs H Q E => ∃ Hv, Same Hv H ∧ Reps Hv vs [] ∧ pre ∧ (∀ y, f = .ok y → ∀ l us Hv' H', Grow Hv H Hv' H' → H l = none → H' l = some (.lst us) → Hv' l = none → Paired (φ.rep Hv') us y → Q (.ref l) H') ∧ ∀ e, f = .error e → ∀ cls d Hv' H', Grow Hv H Hv' H' → ExAt L Hv' e cls d → E cls d H'
theorem spXO0_len   {pre : Prop} {f : Except Exn (List γ)} (h : spXO0 L pre φ f vs H Q E) : vs.length = 0 := by
  obtain ⟨_, _, r, _⟩ := h
  exact r.len
theorem spXO0_body   {pre : Prop} {f : Except Exn (List γ)} {N : List Str} {t : TS} (hl : 0 ≤ N.length) (h : spXO0 L pre φ f vs H Q E) (hb : ∀ B0 : Bs, B0.n = N.length → pre → RtXO L B0 φ (f) Q E → G B0 t [] { nx := fun _ H' => Q .non H', rt := Q }) : t { nx := fun _ H' => Q .non H', rt := Q } (L2.start N vs) H := by
  obtain ⟨Hv, vis, rs, p, k, kx⟩ := h
  exact hb ⟨H, Hv, fun _ => False, N.length⟩ rfl  p ⟨fun _ z => z, k, kx⟩ _ _ _ (wd_start vis rs hl)
theorem smxo_call0   {pre : Prop} {f : Except Exn (List γ)}  {t : TA} (ha : SmA B Γ t []) (hp : pre) : SmXO L B Γ (tCallSD (spXO0 L pre φ f) [] (WE W) t) φ (f) W := fun σ Hv H w Q k kx =>
  ha σ Hv H w _ fun us Hv1 H1 g1 rs => by
    show spXO0 L pre φ f (us ++ []) H1 Q (WE W σ)
    rw [List.append_nil]
    exact ⟨Hv1, g1.vis, rs, hp, fun y q l us Hv2 H2 g2 e0 e1 e2 r2 => k y q _ _ _ _ (g1.trans g2) (Same.free g1.s e0) e1 e2 r2, fun e q cls d Hv2 H2 g2 x => kx e q cls d _ _ (g1.trans g2) x⟩
def spX1 {α1 : Type} (L : ExTab) (τ1 : Ty α1) (pre : α1 → Prop) (φ : Ty γ) (f : α1 → Except Exn γ) : Sp := fun vs H Q E => ∃ (x1 : α1), ∃ Hv, Same Hv H ∧ Reps Hv vs [⟨τ1, x1⟩] ∧ pre x1 ∧ (∀ y, f x1 = .ok y → ∀ v Hv' H', Grow Hv H Hv' H' → φ.rep Hv' v y → Q v H') ∧ ∀ e, f x1 = .error e → ∀ cls d Hv' H', Grow Hv H Hv' H' → ExAt L Hv' e cls d → E cls d H'
theorem spX1_len {α1 : Type} {τ1 : Ty α1} {pre : α1 → Prop} {f : α1 → Except Exn γ} (h : spX1 L τ1 pre φ f vs H Q E) : vs.length = 1 := by
  obtain ⟨_, _, _, r, _⟩ := h
  exact r.len
theorem spX1_body {α1 : Type} {τ1 : Ty α1} {pre : α1 → Prop} {f : α1 → Except Exn γ} {N : List Str} {t : TS} (hl : 1 ≤ N.length) (h : spX1 L τ1 pre φ f vs H Q E) (hb : ∀ B0 : Bs, B0.n = N.length → ∀ (x1 : α1), pre x1 → RtX L B0 φ (f x1) Q E → G B0 t [(0, .fz τ1 x1)] { nx := fun _ H' => Q .non H', rt := Q }) : t { nx := fun _ H' => Q .non H', rt := Q } (L2.start N vs) H := by
  obtain ⟨x1, Hv, vis, rs, p, k, kx⟩ := h
  exact hb ⟨H, Hv, fun _ => False, N.length⟩ rfl x1 p ⟨fun _ z => z, k, kx⟩ _ _ _ (wd_start vis rs hl)
theorem smx_call1 {α1 : Type} {τ1 : Ty α1} {pre : α1 → Prop} {f : α1 → Except Exn γ} {x1 : α1} {t : TA} (ha : SmA B Γ t [⟨τ1, x1⟩]) (hp : pre x1) : SmX L B Γ (tCallSD (spX1 L τ1 pre φ f) [] (WE W) t) φ (f x1) W := fun σ Hv H w Q k kx =>
  ha σ Hv H w _ fun us Hv1 H1 g1 rs => by
    show spX1 L τ1 pre φ f (us ++ []) H1 Q (WE W σ)
    rw [List.append_nil]
    exact ⟨x1, Hv1, g1.vis, rs, hp, fun y q v Hv2 H2 g2 r2 => k y q _ _ _ (g1.trans g2) r2, fun e q cls d Hv2 H2 g2 x => kx e q cls d _ _ (g1.trans g2) x⟩
theorem smx_meth1 {α1 : Type} {C : Addr} {sch : α1 → List (Str × As)}  {pre : α1 → Prop} {f : α1 → Except Exn γ} {m : Str} {x1 : α1} {ta : TE} {t : TA} (h : Sm B Γ ta (tObj C sch) x1) (ns : List Str) (hm : ixOf ns m = none) (hns : (sch x1).map (·.1) = ns) (ha : SmA B Γ t []) (hp : pre x1) : SmX L B Γ (tMethS C m (spX1 L (tObj C sch) pre φ f) [] (WE W) ta t) φ (f x1) W := fun σ Hv H w Q k kx =>
  h σ Hv H w _ fun v Hv1 H1 g1 rv => by
    have rv' := rv
    obtain ⟨a, dx, fs, ev, h1, r1⟩ := rv
    refine ⟨a, dx, fs, ev, g1.vis _ _ h1, r1.none (by rw [hns]; exact hm), ha σ Hv1 H1 (w.grow g1) _ fun us Hv2 H2 g2 rs => ?_⟩
    show spX1 L (tObj C sch) pre φ f (v :: (us ++ [])) H2 Q (WE W σ)
    rw [List.append_nil]
    exact ⟨x1, Hv2, g2.vis, .cons ((tObj C sch).mono g2.v rv') rs, hp, fun y q v Hv3 H3 g3 r3 => k y q _ _ _ ((g1.trans g2).trans g3) r3, fun e q cls d Hv3 H3 g3 x => kx e q cls d _ _ ((g1.trans g2).trans g3) x⟩
def spXO1 {α1 : Type} (L : ExTab) (τ1 : Ty α1) (pre : α1 → Prop) (φ : Ty γ) (f : α1 → Except Exn (List γ)) : Sp := fun vs H Q E => ∃ (x1 : α1), ∃ Hv, Same Hv H ∧ Reps Hv vs [⟨τ1, x1⟩] ∧ pre x1 ∧ (∀ y, f x1 = .ok y → ∀ l us Hv' H', Grow Hv H Hv' H' → H l = none → H' l = some (.lst us) → Hv' l = none → Paired (φ.rep Hv') us y → Q (.ref l) H') ∧ ∀ e, f x1 = .error e → ∀ cls d Hv' H', Grow Hv H Hv' H' → ExAt L Hv' e cls d → E cls d H'
theorem spXO1_len {α1 : Type} {τ1 : Ty α1} {pre : α1 → Prop} {f : α1 → Except Exn (List γ)} (h : spXO1 L τ1 pre φ f vs H Q E) : vs.length = 1 := by
  obtain ⟨_, _, _, r, _⟩ := h
  exact r.len
theorem spXO1_body {α1 : Type} {τ1 : Ty α1} {pre : α1 → Prop} {f : α1 → Except Exn (List γ)} {N : List Str} {t : TS} (hl : 1 ≤ N.length) (h : spXO1 L τ1 pre φ f vs H Q E) (hb : ∀ B0 : Bs, B0.n = N.length → ∀ (x1 : α1), pre x1 → RtXO L B0 φ (f x1) Q E → G B0 t [(0, .fz τ1 x1)] { nx := fun _ H' => Q .non H', rt := Q }) : t { nx := fun _ H' => Q .non H', rt := Q } (L2.start N vs) H := by
  obtain ⟨x1, Hv, vis, rs, p, k, kx⟩ := h
  exact hb ⟨H, Hv, fun _ => False, N.length⟩ rfl x1 p ⟨fun _ z => z, k, kx⟩ _ _ _ (wd_start vis rs hl)
theorem smxo_call1 {α1 : Type} {τ1 : Ty α1} {pre : α1 → Prop} {f : α1 → Except Exn (List γ)} {x1 : α1} {t : TA} (ha : SmA B Γ t [⟨τ1, x1⟩]) (hp : pre x1) : SmXO L B Γ (tCallSD (spXO1 L τ1 pre φ f) [] (WE W) t) φ (f x1) W := fun σ Hv H w Q k kx =>
  ha σ Hv H w _ fun us Hv1 H1 g1 rs => by
    show spXO1 L τ1 pre φ f (us ++ []) H1 Q (WE W σ)
    rw [List.append_nil]
    exact ⟨x1, Hv1, g1.vis, rs, hp, fun y q l us Hv2 H2 g2 e0 e1 e2 r2 => k y q _ _ _ _ (g1.trans g2) (Same.free g1.s e0) e1 e2 r2, fun e q cls d Hv2 H2 g2 x => kx e q cls d _ _ (g1.trans g2) x⟩
theorem smxo_meth1 {α1 : Type} {C : Addr} {sch : α1 → List (Str × As)}  {pre : α1 → Prop} {f : α1 → Except Exn (List γ)} {m : Str} {x1 : α1} {ta : TE} {t : TA} (h : Sm B Γ ta (tObj C sch) x1) (ns : List Str) (hm : ixOf ns m = none) (hns : (sch x1).map (·.1) = ns) (ha : SmA B Γ t []) (hp : pre x1) : SmXO L B Γ (tMethS C m (spXO1 L (tObj C sch) pre φ f) [] (WE W) ta t) φ (f x1) W := fun σ Hv H w Q k kx =>
  h σ Hv H w _ fun v Hv1 H1 g1 rv => by
    have rv' := rv
    obtain ⟨a, dx, fs, ev, h1, r1⟩ := rv
    refine ⟨a, dx, fs, ev, g1.vis _ _ h1, r1.none (by rw [hns]; exact hm), ha σ Hv1 H1 (w.grow g1) _ fun us Hv2 H2 g2 rs => ?_⟩
    show spXO1 L (tObj C sch) pre φ f (v :: (us ++ [])) H2 Q (WE W σ)
    rw [List.append_nil]
    exact ⟨x1, Hv2, g2.vis, .cons ((tObj C sch).mono g2.v rv') rs, hp, fun y q l us Hv3 H3 g3 e0 e1 e2 r3 => k y q _ _ _ _ ((g1.trans g2).trans g3) (Same.free (g1.trans g2).s e0) e1 e2 r3, fun e q cls d Hv3 H3 g3 x => kx e q cls d _ _ ((g1.trans g2).trans g3) x⟩
def spX2 {α1 : Type} {α2 : Type} (L : ExTab) (τ1 : Ty α1) (τ2 : Ty α2) (pre : α1 → α2 → Prop) (φ : Ty γ) (f : α1 → α2 → Except Exn γ) : Sp := fun vs H Q E => ∃ (x1 : α1) (x2 : α2), ∃ Hv, Same Hv H ∧ Reps Hv vs [⟨τ1, x1⟩, ⟨τ2, x2⟩] ∧ pre x1 x2 ∧ (∀ y, f x1 x2 = .ok y → ∀ v Hv' H', Grow Hv H Hv' H' → φ.rep Hv' v y → Q v H') ∧ ∀ e, f x1 x2 = .error e → ∀ cls d Hv' H', Grow Hv H Hv' H' → ExAt L Hv' e cls d → E cls d H'
theorem spX2_len {α1 : Type} {α2 : Type} {τ1 : Ty α1} {τ2 : Ty α2} {pre : α1 → α2 → Prop} {f : α1 → α2 → Except Exn γ} (h : spX2 L τ1 τ2 pre φ f vs H Q E) : vs.length = 2 := by
  obtain ⟨_, _, _, _, r, _⟩ := h
  exact r.len
theorem spX2_body {α1 : Type} {α2 : Type} {τ1 : Ty α1} {τ2 : Ty α2} {pre : α1 → α2 → Prop} {f : α1 → α2 → Except Exn γ} {N : List Str} {t : TS} (hl : 2 ≤ N.length) (h : spX2 L τ1 τ2 pre φ f vs H Q E) (hb : ∀ B0 : Bs, B0.n = N.length → ∀ (x1 : α1) (x2 : α2), pre x1 x2 → RtX L B0 φ (f x1 x2) Q E → G B0 t [(0, .fz τ1 x1), (1, .fz τ2 x2)] { nx := fun _ H' => Q .non H', rt := Q }) : t { nx := fun _ H' => Q .non H', rt := Q } (L2.start N vs) H := by
  obtain ⟨x1, x2, Hv, vis, rs, p, k, kx⟩ := h
  exact hb ⟨H, Hv, fun _ => False, N.length⟩ rfl x1 x2 p ⟨fun _ z => z, k, kx⟩ _ _ _ (wd_start vis rs hl)
theorem smx_call2 {α1 : Type} {α2 : Type} {τ1 : Ty α1} {τ2 : Ty α2} {pre : α1 → α2 → Prop} {f : α1 → α2 → Except Exn γ} {x1 : α1} {x2 : α2} {t : TA} (ha : SmA B Γ t [⟨τ1, x1⟩, ⟨τ2, x2⟩]) (hp : pre x1 x2) : SmX L B Γ (tCallSD (spX2 L τ1 τ2 pre φ f) [] (WE W) t) φ (f x1 x2) W := fun σ Hv H w Q k kx =>
  ha σ Hv H w _ fun us Hv1 H1 g1 rs => by
    show spX2 L τ1 τ2 pre φ f (us ++ []) H1 Q (WE W σ)
    rw [List.append_nil]
    exact ⟨x1, x2, Hv1, g1.vis, rs, hp, fun y q v Hv2 H2 g2 r2 => k y q _ _ _ (g1.trans g2) r2, fun e q cls d Hv2 H2 g2 x => kx e q cls d _ _ (g1.trans g2) x⟩
theorem smx_meth2 {α1 : Type} {α2 : Type} {C : Addr} {sch : α1 → List (Str × As)} {τ2 : Ty α2} {pre : α1 → α2 → Prop} {f : α1 → α2 → Except Exn γ} {m : Str} {x1 : α1} {x2 : α2} {ta : TE} {t : TA} (h : Sm B Γ ta (tObj C sch) x1) (ns : List Str) (hm : ixOf ns m = none) (hns : (sch x1).map (·.1) = ns) (ha : SmA B Γ t [⟨τ2, x2⟩]) (hp : pre x1 x2) : SmX L B Γ (tMethS C m (spX2 L (tObj C sch) τ2 pre φ f) [] (WE W) ta t) φ (f x1 x2) W := fun σ Hv H w Q k kx =>
  h σ Hv H w _ fun v Hv1 H1 g1 rv => by
    have rv' := rv
    obtain ⟨a, dx, fs, ev, h1, r1⟩ := rv
    refine ⟨a, dx, fs, ev, g1.vis _ _ h1, r1.none (by rw [hns]; exact hm), ha σ Hv1 H1 (w.grow g1) _ fun us Hv2 H2 g2 rs => ?_⟩
    show spX2 L (tObj C sch) τ2 pre φ f (v :: (us ++ [])) H2 Q (WE W σ)
    rw [List.append_nil]
    exact ⟨x1, x2, Hv2, g2.vis, .cons ((tObj C sch).mono g2.v rv') rs, hp, fun y q v Hv3 H3 g3 r3 => k y q _ _ _ ((g1.trans g2).trans g3) r3, fun e q cls d Hv3 H3 g3 x => kx e q cls d _ _ ((g1.trans g2).trans g3) x⟩
def spXO2 {α1 : Type} {α2 : Type} (L : ExTab) (τ1 : Ty α1) (τ2 : Ty α2) (pre : α1 → α2 → Prop) (φ : Ty γ) (f : α1 → α2 → Except Exn (List γ)) : Sp := fun vs H Q E => ∃ (x1 : α1) (x2 : α2), ∃ Hv, Same Hv H ∧ Reps Hv vs [⟨τ1, x1⟩, ⟨τ2, x2⟩] ∧ pre x1 x2 ∧ (∀ y, f x1 x2 = .ok y → ∀ l us Hv' H', Grow Hv H Hv' H' → H l = none → H' l = some (.lst us) → Hv' l = none → Paired (φ.rep Hv') us y → Q (.ref l) H') ∧ ∀ e, f x1 x2 = .error e → ∀ cls d Hv' H', Grow Hv H Hv' H' → ExAt L Hv' e cls d → E cls d H'
theorem spXO2_len {α1 : Type} {α2 : Type} {τ1 : Ty α1} {τ2 : Ty α2} {pre : α1 → α2 → Prop} {f : α1 → α2 → Except Exn (List γ)} (h : spXO2 L τ1 τ2 pre φ f vs H Q E) : vs.length = 2 := by
  obtain ⟨_, _, _, _, r, _⟩ := h
  exact r.len
theorem spXO2_body {α1 : Type} {α2 : Type} {τ1 : Ty α1} {τ2 : Ty α2} {pre : α1 → α2 → Prop} {f : α1 → α2 → Except Exn (List γ)} {N : List Str} {t : TS} (hl : 2 ≤ N.length) (h : spXO2 L τ1 τ2 pre φ f vs H Q E) (hb : ∀ B0 : Bs, B0.n = N.length → ∀ (x1 : α1) (x2 : α2), pre x1 x2 → RtXO L B0 φ (f x1 x2) Q E → G B0 t [(0, .fz τ1 x1), (1, .fz τ2 x2)] { nx := fun _ H' => Q .non H', rt := Q }) : t { nx := fun _ H' => Q .non H', rt := Q } (L2.start N vs) H := by
  obtain ⟨x1, x2, Hv, vis, rs, p, k, kx⟩ := h
  exact hb ⟨H, Hv, fun _ => False, N.length⟩ rfl x1 x2 p ⟨fun _ z => z, k, kx⟩ _ _ _ (wd_start vis rs hl)
theorem smxo_call2 {α1 : Type} {α2 : Type} {τ1 : Ty α1} {τ2 : Ty α2} {pre : α1 → α2 → Prop} {f : α1 → α2 → Except Exn (List γ)} {x1 : α1} {x2 : α2} {t : TA} (ha : SmA B Γ t [⟨τ1, x1⟩, ⟨τ2, x2⟩]) (hp : pre x1 x2) : SmXO L B Γ (tCallSD (spXO2 L τ1 τ2 pre φ f) [] (WE W) t) φ (f x1 x2) W := fun σ Hv H w Q k kx =>
  ha σ Hv H w _ fun us Hv1 H1 g1 rs => by
    show spXO2 L τ1 τ2 pre φ f (us ++ []) H1 Q (WE W σ)
    rw [List.append_nil]
    exact ⟨x1, x2, Hv1, g1.vis, rs, hp, fun y q l us Hv2 H2 g2 e0 e1 e2 r2 => k y q _ _ _ _ (g1.trans g2) (Same.free g1.s e0) e1 e2 r2, fun e q cls d Hv2 H2 g2 x => kx e q cls d _ _ (g1.trans g2) x⟩
theorem smxo_meth2 {α1 : Type} {α2 : Type} {C : Addr} {sch : α1 → List (Str × As)} {τ2 : Ty α2} {pre : α1 → α2 → Prop} {f : α1 → α2 → Except Exn (List γ)} {m : Str} {x1 : α1} {x2 : α2} {ta : TE} {t : TA} (h : Sm B Γ ta (tObj C sch) x1) (ns : List Str) (hm : ixOf ns m = none) (hns : (sch x1).map (·.1) = ns) (ha : SmA B Γ t [⟨τ2, x2⟩]) (hp : pre x1 x2) : SmXO L B Γ (tMethS C m (spXO2 L (tObj C sch) τ2 pre φ f) [] (WE W) ta t) φ (f x1 x2) W := fun σ Hv H w Q k kx =>
  h σ Hv H w _ fun v Hv1 H1 g1 rv => by
    have rv' := rv
    obtain ⟨a, dx, fs, ev, h1, r1⟩ := rv
    refine ⟨a, dx, fs, ev, g1.vis _ _ h1, r1.none (by rw [hns]; exact hm), ha σ Hv1 H1 (w.grow g1) _ fun us Hv2 H2 g2 rs => ?_⟩
    show spXO2 L (tObj C sch) τ2 pre φ f (v :: (us ++ [])) H2 Q (WE W σ)
    rw [List.append_nil]
    exact ⟨x1, x2, Hv2, g2.vis, .cons ((tObj C sch).mono g2.v rv') rs, hp, fun y q l us Hv3 H3 g3 e0 e1 e2 r3 => k y q _ _ _ _ ((g1.trans g2).trans g3) (Same.free (g1.trans g2).s e0) e1 e2 r3, fun e q cls d Hv3 H3 g3 x => kx e q cls d _ _ ((g1.trans g2).trans g3) x⟩
def spX3 {α1 : Type} {α2 : Type} {α3 : Type} (L : ExTab) (τ1 : Ty α1) (τ2 : Ty α2) (τ3 : Ty α3) (pre : α1 → α2 → α3 → Prop) (φ : Ty γ) (f : α1 → α2 → α3 → Except Exn γ) : Sp := fun vs H Q E => ∃ (x1 : α1) (x2 : α2) (x3 : α3), ∃ Hv, Same Hv H ∧ Reps Hv vs [⟨τ1, x1⟩, ⟨τ2, x2⟩, ⟨τ3, x3⟩] ∧ pre x1 x2 x3 ∧ (∀ y, f x1 x2 x3 = .ok y → ∀ v Hv' H', Grow Hv H Hv' H' → φ.rep Hv' v y → Q v H') ∧ ∀ e, f x1 x2 x3 = .error e → ∀ cls d Hv' H', Grow Hv H Hv' H' → ExAt L Hv' e cls d → E cls d H'
theorem spX3_len {α1 : Type} {α2 : Type} {α3 : Type} {τ1 : Ty α1} {τ2 : Ty α2} {τ3 : Ty α3} {pre : α1 → α2 → α3 → Prop} {f : α1 → α2 → α3 → Except Exn γ} (h : spX3 L τ1 τ2 τ3 pre φ f vs H Q E) : vs.length = 3 := by
  obtain ⟨_, _, _, _, _, r, _⟩ := h
  exact r.len
theorem spX3_body {α1 : Type} {α2 : Type} {α3 : Type} {τ1 : Ty α1} {τ2 : Ty α2} {τ3 : Ty α3} {pre : α1 → α2 → α3 → Prop} {f : α1 → α2 → α3 → Except Exn γ} {N : List Str} {t : TS} (hl : 3 ≤ N.length) (h : spX3 L τ1 τ2 τ3 pre φ f vs H Q E) (hb : ∀ B0 : Bs, B0.n = N.length → ∀ (x1 : α1) (x2 : α2) (x3 : α3), pre x1 x2 x3 → RtX L B0 φ (f x1 x2 x3) Q E → G B0 t [(0, .fz τ1 x1), (1, .fz τ2 x2), (2, .fz τ3 x3)] { nx := fun _ H' => Q .non H', rt := Q }) : t { nx := fun _ H' => Q .non H', rt := Q } (L2.start N vs) H := by
  obtain ⟨x1, x2, x3, Hv, vis, rs, p, k, kx⟩ := h
  exact hb ⟨H, Hv, fun _ => False, N.length⟩ rfl x1 x2 x3 p ⟨fun _ z => z, k, kx⟩ _ _ _ (wd_start vis rs hl)
theorem smx_call3 {α1 : Type} {α2 : Type} {α3 : Type} {τ1 : Ty α1} {τ2 : Ty α2} {τ3 : Ty α3} {pre : α1 → α2 → α3 → Prop} {f : α1 → α2 → α3 → Except Exn γ} {x1 : α1} {x2 : α2} {x3 : α3} {t : TA} (ha : SmA B Γ t [⟨τ1, x1⟩, ⟨τ2, x2⟩, ⟨τ3, x3⟩]) (hp : pre x1 x2 x3) : SmX L B Γ (tCallSD (spX3 L τ1 τ2 τ3 pre φ f) [] (WE W) t) φ (f x1 x2 x3) W := fun σ Hv H w Q k kx =>
  ha σ Hv H w _ fun us Hv1 H1 g1 rs => by
    show spX3 L τ1 τ2 τ3 pre φ f (us ++ []) H1 Q (WE W σ)
    rw [List.append_nil]
    exact ⟨x1, x2, x3, Hv1, g1.vis, rs, hp, fun y q v Hv2 H2 g2 r2 => k y q _ _ _ (g1.trans g2) r2, fun e q cls d Hv2 H2 g2 x => kx e q cls d _ _ (g1.trans g2) x⟩
theorem smx_meth3 {α1 : Type} {α2 : Type} {α3 : Type} {C : Addr} {sch : α1 → List (Str × As)} {τ2 : Ty α2} {τ3 : Ty α3} {pre : α1 → α2 → α3 → Prop} {f : α1 → α2 → α3 → Except Exn γ} {m : Str} {x1 : α1} {x2 : α2} {x3 : α3} {ta : TE} {t : TA} (h : Sm B Γ ta (tObj C sch) x1) (ns : List Str) (hm : ixOf ns m = none) (hns : (sch x1).map (·.1) = ns) (ha : SmA B Γ t [⟨τ2, x2⟩, ⟨τ3, x3⟩]) (hp : pre x1 x2 x3) : SmX L B Γ (tMethS C m (spX3 L (tObj C sch) τ2 τ3 pre φ f) [] (WE W) ta t) φ (f x1 x2 x3) W := fun σ Hv H w Q k kx =>
  h σ Hv H w _ fun v Hv1 H1 g1 rv => by
    have rv' := rv
    obtain ⟨a, dx, fs, ev, h1, r1⟩ := rv
    refine ⟨a, dx, fs, ev, g1.vis _ _ h1, r1.none (by rw [hns]; exact hm), ha σ Hv1 H1 (w.grow g1) _ fun us Hv2 H2 g2 rs => ?_⟩
    show spX3 L (tObj C sch) τ2 τ3 pre φ f (v :: (us ++ [])) H2 Q (WE W σ)
    rw [List.append_nil]
    exact ⟨x1, x2, x3, Hv2, g2.vis, .cons ((tObj C sch).mono g2.v rv') rs, hp, fun y q v Hv3 H3 g3 r3 => k y q _ _ _ ((g1.trans g2).trans g3) r3, fun e q cls d Hv3 H3 g3 x => kx e q cls d _ _ ((g1.trans g2).trans g3) x⟩
def spXO3 {α1 : Type} {α2 : Type} {α3 : Type} (L : ExTab) (τ1 : Ty α1) (τ2 : Ty α2) (τ3 : Ty α3) (pre : α1 → α2 → α3 → Prop) (φ : Ty γ) (f : α1 → α2 → α3 → Except Exn (List γ)) : Sp := fun vs H Q E => ∃ (x1 : α1) (x2 : α2) (x3 : α3), ∃ Hv, Same Hv H ∧ Reps Hv vs [⟨τ1, x1⟩, ⟨τ2, x2⟩, ⟨τ3, x3⟩] ∧ pre x1 x2 x3 ∧ (∀ y, f x1 x2 x3 = .ok y → ∀ l us Hv' H', Grow Hv H Hv' H' → H l = none → H' l = some (.lst us) → Hv' l = none → Paired (φ.rep Hv') us y → Q (.ref l) H') ∧ ∀ e, f x1 x2 x3 = .error e → ∀ cls d Hv' H', Grow Hv H Hv' H' → ExAt L Hv' e cls d → E cls d H'
theorem spXO3_len {α1 : Type} {α2 : Type} {α3 : Type} {τ1 : Ty α1} {τ2 : Ty α2} {τ3 : Ty α3} {pre : α1 → α2 → α3 → Prop} {f : α1 → α2 → α3 → Except Exn (List γ)} (h : spXO3 L τ1 τ2 τ3 pre φ f vs H Q E) : vs.length = 3 := by
  obtain ⟨_, _, _, _, _, r, _⟩ := h
  exact r.len
theorem spXO3_body {α1 : Type} {α2 : Type} {α3 : Type} {τ1 : Ty α1} {τ2 : Ty α2} {τ3 : Ty α3} {pre : α1 → α2 → α3 → Prop} {f : α1 → α2 → α3 → Except Exn (List γ)} {N : List Str} {t : TS} (hl : 3 ≤ N.length) (h : spXO3 L τ1 τ2 τ3 pre φ f vs H Q E) (hb : ∀ B0 : Bs, B0.n = N.length → ∀ (x1 : α1) (x2 : α2) (x3 : α3), pre x1 x2 x3 → RtXO L B0 φ (f x1 x2 x3) Q E → G B0 t [(0, .fz τ1 x1), (1, .fz τ2 x2), (2, .fz τ3 x3)] { nx := fun _ H' => Q .non H', rt := Q }) : t { nx := fun _ H' => Q .non H', rt := Q } (L2.start N vs) H := by
  obtain ⟨x1, x2, x3, Hv, vis, rs, p, k, kx⟩ := h
  exact hb ⟨H, Hv, fun _ => False, N.length⟩ rfl x1 x2 x3 p ⟨fun _ z => z, k, kx⟩ _ _ _ (wd_start vis rs hl)
theorem smxo_call3 {α1 : Type} {α2 : Type} {α3 : Type} {τ1 : Ty α1} {τ2 : Ty α2} {τ3 : Ty α3} {pre : α1 → α2 → α3 → Prop} {f : α1 → α2 → α3 → Except Exn (List γ)} {x1 : α1} {x2 : α2} {x3 : α3} {t : TA} (ha : SmA B Γ t [⟨τ1, x1⟩, ⟨τ2, x2⟩, ⟨τ3, x3⟩]) (hp : pre x1 x2 x3) : SmXO L B Γ (tCallSD (spXO3 L τ1 τ2 τ3 pre φ f) [] (WE W) t) φ (f x1 x2 x3) W := fun σ Hv H w Q k kx =>
  ha σ Hv H w _ fun us Hv1 H1 g1 rs => by
    show spXO3 L τ1 τ2 τ3 pre φ f (us ++ []) H1 Q (WE W σ)
    rw [List.append_nil]
    exact ⟨x1, x2, x3, Hv1, g1.vis, rs, hp, fun y q l us Hv2 H2 g2 e0 e1 e2 r2 => k y q _ _ _ _ (g1.trans g2) (Same.free g1.s e0) e1 e2 r2, fun e q cls d Hv2 H2 g2 x => kx e q cls d _ _ (g1.trans g2) x⟩
theorem smxo_meth3 {α1 : Type} {α2 : Type} {α3 : Type} {C : Addr} {sch : α1 → List (Str × As)} {τ2 : Ty α2} {τ3 : Ty α3} {pre : α1 → α2 → α3 → Prop} {f : α1 → α2 → α3 → Except Exn (List γ)} {m : Str} {x1 : α1} {x2 : α2} {x3 : α3} {ta : TE} {t : TA} (h : Sm B Γ ta (tObj C sch) x1) (ns : List Str) (hm : ixOf ns m = none) (hns : (sch x1).map (·.1) = ns) (ha : SmA B Γ t [⟨τ2, x2⟩, ⟨τ3, x3⟩]) (hp : pre x1 x2 x3) : SmXO L B Γ (tMethS C m (spXO3 L (tObj C sch) τ2 τ3 pre φ f) [] (WE W) ta t) φ (f x1 x2 x3) W := fun σ Hv H w Q k kx =>
  h σ Hv H w _ fun v Hv1 H1 g1 rv => by
    have rv' := rv
    obtain ⟨a, dx, fs, ev, h1, r1⟩ := rv
    refine ⟨a, dx, fs, ev, g1.vis _ _ h1, r1.none (by rw [hns]; exact hm), ha σ Hv1 H1 (w.grow g1) _ fun us Hv2 H2 g2 rs => ?_⟩
    show spXO3 L (tObj C sch) τ2 τ3 pre φ f (v :: (us ++ [])) H2 Q (WE W σ)
    rw [List.append_nil]
    exact ⟨x1, x2, x3, Hv2, g2.vis, .cons ((tObj C sch).mono g2.v rv') rs, hp, fun y q l us Hv3 H3 g3 e0 e1 e2 r3 => k y q _ _ _ _ ((g1.trans g2).trans g3) (Same.free (g1.trans g2).s e0) e1 e2 r3, fun e q cls d Hv3 H3 g3 x => kx e q cls d _ _ ((g1.trans g2).trans g3) x⟩
def spX4 {α1 : Type} {α2 : Type} {α3 : Type} {α4 : Type} (L : ExTab) (τ1 : Ty α1) (τ2 : Ty α2) (τ3 : Ty α3) (τ4 : Ty α4) (pre : α1 → α2 → α3 → α4 → Prop) (φ : Ty γ) (f : α1 → α2 → α3 → α4 → Except Exn γ) : Sp := fun vs H Q E => ∃ (x1 : α1) (x2 : α2) (x3 : α3) (x4 : α4), ∃ Hv, Same Hv H ∧ Reps Hv vs [⟨τ1, x1⟩, ⟨τ2, x2⟩, ⟨τ3, x3⟩, ⟨τ4, x4⟩] ∧ pre x1 x2 x3 x4 ∧ (∀ y, f x1 x2 x3 x4 = .ok y → ∀ v Hv' H', Grow Hv H Hv' H' → φ.rep Hv' v y → Q v H') ∧ ∀ e, f x1 x2 x3 x4 = .error e → ∀ cls d Hv' H', Grow Hv H Hv' H' → ExAt L Hv' e cls d → E cls d H'
theorem spX4_len {α1 : Type} {α2 : Type} {α3 : Type} {α4 : Type} {τ1 : Ty α1} {τ2 : Ty α2} {τ3 : Ty α3} {τ4 : Ty α4} {pre : α1 → α2 → α3 → α4 → Prop} {f : α1 → α2 → α3 → α4 → Except Exn γ} (h : spX4 L τ1 τ2 τ3 τ4 pre φ f vs H Q E) : vs.length = 4 := by
  obtain ⟨_, _, _, _, _, _, r, _⟩ := h
  exact r.len
theorem spX4_body {α1 : Type} {α2 : Type} {α3 : Type} {α4 : Type} {τ1 : Ty α1} {τ2 : Ty α2} {τ3 : Ty α3} {τ4 : Ty α4} {pre : α1 → α2 → α3 → α4 → Prop} {f : α1 → α2 → α3 → α4 → Except Exn γ} {N : List Str} {t : TS} (hl : 4 ≤ N.length) (h : spX4 L τ1 τ2 τ3 τ4 pre φ f vs H Q E) (hb : ∀ B0 : Bs, B0.n = N.length → ∀ (x1 : α1) (x2 : α2) (x3 : α3) (x4 : α4), pre x1 x2 x3 x4 → RtX L B0 φ (f x1 x2 x3 x4) Q E → G B0 t [(0, .fz τ1 x1), (1, .fz τ2 x2), (2, .fz τ3 x3), (3, .fz τ4 x4)] { nx := fun _ H' => Q .non H', rt := Q }) : t { nx := fun _ H' => Q .non H', rt := Q } (L2.start N vs) H := by
  obtain ⟨x1, x2, x3, x4, Hv, vis, rs, p, k, kx⟩ := h
  exact hb ⟨H, Hv, fun _ => False, N.length⟩ rfl x1 x2 x3 x4 p ⟨fun _ z => z, k, kx⟩ _ _ _ (wd_start vis rs hl)
theorem smx_call4 {α1 : Type} {α2 : Type} {α3 : Type} {α4 : Type} {τ1 : Ty α1} {τ2 : Ty α2} {τ3 : Ty α3} {τ4 : Ty α4} {pre : α1 → α2 → α3 → α4 → Prop} {f : α1 → α2 → α3 → α4 → Except Exn γ} {x1 : α1} {x2 : α2} {x3 : α3} {x4 : α4} {t : TA} (ha : SmA B Γ t [⟨τ1, x1⟩, ⟨τ2, x2⟩, ⟨τ3, x3⟩, ⟨τ4, x4⟩]) (hp : pre x1 x2 x3 x4) : SmX L B Γ (tCallSD (spX4 L τ1 τ2 τ3 τ4 pre φ f) [] (WE W) t) φ (f x1 x2 x3 x4) W := fun σ Hv H w Q k kx =>
  ha σ Hv H w _ fun us Hv1 H1 g1 rs => by
    show spX4 L τ1 τ2 τ3 τ4 pre φ f (us ++ []) H1 Q (WE W σ)
    rw [List.append_nil]
    exact ⟨x1, x2, x3, x4, Hv1, g1.vis, rs, hp, fun y q v Hv2 H2 g2 r2 => k y q _ _ _ (g1.trans g2) r2, fun e q cls d Hv2 H2 g2 x => kx e q cls d _ _ (g1.trans g2) x⟩
theorem smx_meth4 {α1 : Type} {α2 : Type} {α3 : Type} {α4 : Type} {C : Addr} {sch : α1 → List (Str × As)} {τ2 : Ty α2} {τ3 : Ty α3} {τ4 : Ty α4} {pre : α1 → α2 → α3 → α4 → Prop} {f : α1 → α2 → α3 → α4 → Except Exn γ} {m : Str} {x1 : α1} {x2 : α2} {x3 : α3} {x4 : α4} {ta : TE} {t : TA} (h : Sm B Γ ta (tObj C sch) x1) (ns : List Str) (hm : ixOf ns m = none) (hns : (sch x1).map (·.1) = ns) (ha : SmA B Γ t [⟨τ2, x2⟩, ⟨τ3, x3⟩, ⟨τ4, x4⟩]) (hp : pre x1 x2 x3 x4) : SmX L B Γ (tMethS C m (spX4 L (tObj C sch) τ2 τ3 τ4 pre φ f) [] (WE W) ta t) φ (f x1 x2 x3 x4) W := fun σ Hv H w Q k kx =>
  h σ Hv H w _ fun v Hv1 H1 g1 rv => by
    have rv' := rv
    obtain ⟨a, dx, fs, ev, h1, r1⟩ := rv
    refine ⟨a, dx, fs, ev, g1.vis _ _ h1, r1.none (by rw [hns]; exact hm), ha σ Hv1 H1 (w.grow g1) _ fun us Hv2 H2 g2 rs => ?_⟩
    show spX4 L (tObj C sch) τ2 τ3 τ4 pre φ f (v :: (us ++ [])) H2 Q (WE W σ)
    rw [List.append_nil]
    exact ⟨x1, x2, x3, x4, Hv2, g2.vis, .cons ((tObj C sch).mono g2.v rv') rs, hp, fun y q v Hv3 H3 g3 r3 => k y q _ _ _ ((g1.trans g2).trans g3) r3, fun e q cls d Hv3 H3 g3 x => kx e q cls d _ _ ((g1.trans g2).trans g3) x⟩
def spXO4 {α1 : Type} {α2 : Type} {α3 : Type} {α4 : Type} (L : ExTab) (τ1 : Ty α1) (τ2 : Ty α2) (τ3 : Ty α3) (τ4 : Ty α4) (pre : α1 → α2 → α3 → α4 → Prop) (φ : Ty γ) (f : α1 → α2 → α3 → α4 → Except Exn (List γ)) : Sp := fun vs H Q E => ∃ (x1 : α1) (x2 : α2) (x3 : α3) (x4 : α4), ∃ Hv, Same Hv H ∧ Reps Hv vs [⟨τ1, x1⟩, ⟨τ2, x2⟩, ⟨τ3, x3⟩, ⟨τ4, x4⟩] ∧ pre x1 x2 x3 x4 ∧ (∀ y, f x1 x2 x3 x4 = .ok y → ∀ l us Hv' H', Grow Hv H Hv' H' → H l = none → H' l = some (.lst us) → Hv' l = none → Paired (φ.rep Hv') us y → Q (.ref l) H') ∧ ∀ e, f x1 x2 x3 x4 = .error e → ∀ cls d Hv' H', Grow Hv H Hv' H' → ExAt L Hv' e cls d → E cls d H'
theorem spXO4_len {α1 : Type} {α2 : Type} {α3 : Type} {α4 : Type} {τ1 : Ty α1} {τ2 : Ty α2} {τ3 : Ty α3} {τ4 : Ty α4} {pre : α1 → α2 → α3 → α4 → Prop} {f : α1 → α2 → α3 → α4 → Except Exn (List γ)} (h : spXO4 L τ1 τ2 τ3 τ4 pre φ f vs H Q E) : vs.length = 4 := by
  obtain ⟨_, _, _, _, _, _, r, _⟩ := h
  exact r.len
theorem spXO4_body {α1 : Type} {α2 : Type} {α3 : Type} {α4 : Type} {τ1 : Ty α1} {τ2 : Ty α2} {τ3 : Ty α3} {τ4 : Ty α4} {pre : α1 → α2 → α3 → α4 → Prop} {f : α1 → α2 → α3 → α4 → Except Exn (List γ)} {N : List Str} {t : TS} (hl : 4 ≤ N.length) (h : spXO4 L τ1 τ2 τ3 τ4 pre φ f vs H Q E) (hb : ∀ B0 : Bs, B0.n = N.length → ∀ (x1 : α1) (x2 : α2) (x3 : α3) (x4 : α4), pre x1 x2 x3 x4 → RtXO L B0 φ (f x1 x2 x3 x4) Q E → G B0 t [(0, .fz τ1 x1), (1, .fz τ2 x2), (2, .fz τ3 x3), (3, .fz τ4 x4)] { nx := fun _ H' => Q .non H', rt := Q }) : t { nx := fun _ H' => Q .non H', rt := Q } (L2.start N vs) H := by
  obtain ⟨x1, x2, x3, x4, Hv, vis, rs, p, k, kx⟩ := h
  exact hb ⟨H, Hv, fun _ => False, N.length⟩ rfl x1 x2 x3 x4 p ⟨fun _ z => z, k, kx⟩ _ _ _ (wd_start vis rs hl)
theorem smxo_call4 {α1 : Type} {α2 : Type} {α3 : Type} {α4 : Type} {τ1 : Ty α1} {τ2 : Ty α2} {τ3 : Ty α3} {τ4 : Ty α4} {pre : α1 → α2 → α3 → α4 → Prop} {f : α1 → α2 → α3 → α4 → Except Exn (List γ)} {x1 : α1} {x2 : α2} {x3 : α3} {x4 : α4} {t : TA} (ha : SmA B Γ t [⟨τ1, x1⟩, ⟨τ2, x2⟩, ⟨τ3, x3⟩, ⟨τ4, x4⟩]) (hp : pre x1 x2 x3 x4) : SmXO L B Γ (tCallSD (spXO4 L τ1 τ2 τ3 τ4 pre φ f) [] (WE W) t) φ (f x1 x2 x3 x4) W := fun σ Hv H w Q k kx =>
  ha σ Hv H w _ fun us Hv1 H1 g1 rs => by
    show spXO4 L τ1 τ2 τ3 τ4 pre φ f (us ++ []) H1 Q (WE W σ)
    rw [List.append_nil]
    exact ⟨x1, x2, x3, x4, Hv1, g1.vis, rs, hp, fun y q l us Hv2 H2 g2 e0 e1 e2 r2 => k y q _ _ _ _ (g1.trans g2) (Same.free g1.s e0) e1 e2 r2, fun e q cls d Hv2 H2 g2 x => kx e q cls d _ _ (g1.trans g2) x⟩
theorem smxo_meth4 {α1 : Type} {α2 : Type} {α3 : Type} {α4 : Type} {C : Addr} {sch : α1 → List (Str × As)} {τ2 : Ty α2} {τ3 : Ty α3} {τ4 : Ty α4} {pre : α1 → α2 → α3 → α4 → Prop} {f : α1 → α2 → α3 → α4 → Except Exn (List γ)} {m : Str} {x1 : α1} {x2 : α2} {x3 : α3} {x4 : α4} {ta : TE} {t : TA} (h : Sm B Γ ta (tObj C sch) x1) (ns : List Str) (hm : ixOf ns m = none) (hns : (sch x1).map (·.1) = ns) (ha : SmA B Γ t [⟨τ2, x2⟩, ⟨τ3, x3⟩, ⟨τ4, x4⟩]) (hp : pre x1 x2 x3 x4) : SmXO L B Γ (tMethS C m (spXO4 L (tObj C sch) τ2 τ3 τ4 pre φ f) [] (WE W) ta t) φ (f x1 x2 x3 x4) W := fun σ Hv H w Q k kx =>
  h σ Hv H w _ fun v Hv1 H1 g1 rv => by
    have rv' := rv
    obtain ⟨a, dx, fs, ev, h1, r1⟩ := rv
    refine ⟨a, dx, fs, ev, g1.vis _ _ h1, r1.none (by rw [hns]; exact hm), ha σ Hv1 H1 (w.grow g1) _ fun us Hv2 H2 g2 rs => ?_⟩
    show spXO4 L (tObj C sch) τ2 τ3 τ4 pre φ f (v :: (us ++ [])) H2 Q (WE W σ)
    rw [List.append_nil]
    exact ⟨x1, x2, x3, x4, Hv2, g2.vis, .cons ((tObj C sch).mono g2.v rv') rs, hp, fun y q l us Hv3 H3 g3 e0 e1 e2 r3 => k y q _ _ _ _ ((g1.trans g2).trans g3) (Same.free (g1.trans g2).s e0) e1 e2 r3, fun e q cls d Hv3 H3 g3 x => kx e q cls d _ _ ((g1.trans g2).trans g3) x⟩
def spX5 {α1 : Type} {α2 : Type} {α3 : Type} {α4 : Type} {α5 : Type} (L : ExTab) (τ1 : Ty α1) (τ2 : Ty α2) (τ3 : Ty α3) (τ4 : Ty α4) (τ5 : Ty α5) (pre : α1 → α2 → α3 → α4 → α5 → Prop) (φ : Ty γ) (f : α1 → α2 → α3 → α4 → α5 → Except Exn γ) : Sp := fun vs H Q E => ∃ (x1 : α1) (x2 : α2) (x3 : α3) (x4 : α4) (x5 : α5), ∃ Hv, Same Hv H ∧ Reps Hv vs [⟨τ1, x1⟩, ⟨τ2, x2⟩, ⟨τ3, x3⟩, ⟨τ4, x4⟩, ⟨τ5, x5⟩] ∧ pre x1 x2 x3 x4 x5 ∧ (∀ y, f x1 x2 x3 x4 x5 = .ok y → ∀ v Hv' H', Grow Hv H Hv' H' → φ.rep Hv' v y → Q v H') ∧ ∀ e, f x1 x2 x3 x4 x5 = .error e → ∀ cls d Hv' H', Grow Hv H Hv' H' → ExAt L Hv' e cls d → E cls d H'
theorem spX5_len {α1 : Type} {α2 : Type} {α3 : Type} {α4 : Type} {α5 : Type} {τ1 : Ty α1} {τ2 : Ty α2} {τ3 : Ty α3} {τ4 : Ty α4} {τ5 : Ty α5} {pre : α1 → α2 → α3 → α4 → α5 → Prop} {f : α1 → α2 → α3 → α4 → α5 → Except Exn γ} (h : spX5 L τ1 τ2 τ3 τ4 τ5 pre φ f vs H Q E) : vs.length = 5 := by
  obtain ⟨_, _, _, _, _, _, _, r, _⟩ := h
  exact r.len
theorem spX5_body {α1 : Type} {α2 : Type} {α3 : Type} {α4 : Type} {α5 : Type} {τ1 : Ty α1} {τ2 : Ty α2} {τ3 : Ty α3} {τ4 : Ty α4} {τ5 : Ty α5} {pre : α1 → α2 → α3 → α4 → α5 → Prop} {f : α1 → α2 → α3 → α4 → α5 → Except Exn γ} {N : List Str} {t : TS} (hl : 5 ≤ N.length) (h : spX5 L τ1 τ2 τ3 τ4 τ5 pre φ f vs H Q E) (hb : ∀ B0 : Bs, B0.n = N.length → ∀ (x1 : α1) (x2 : α2) (x3 : α3) (x4 : α4) (x5 : α5), pre x1 x2 x3 x4 x5 → RtX L B0 φ (f x1 x2 x3 x4 x5) Q E → G B0 t [(0, .fz τ1 x1), (1, .fz τ2 x2), (2, .fz τ3 x3), (3, .fz τ4 x4), (4, .fz τ5 x5)] { nx := fun _ H' => Q .non H', rt := Q }) : t { nx := fun _ H' => Q .non H', rt := Q } (L2.start N vs) H := by
  obtain ⟨x1, x2, x3, x4, x5, Hv, vis, rs, p, k, kx⟩ := h
  exact hb ⟨H, Hv, fun _ => False, N.length⟩ rfl x1 x2 x3 x4 x5 p ⟨fun _ z => z, k, kx⟩ _ _ _ (wd_start vis rs hl)
theorem smx_call5 {α1 : Type} {α2 : Type} {α3 : Type} {α4 : Type} {α5 : Type} {τ1 : Ty α1} {τ2 : Ty α2} {τ3 : Ty α3} {τ4 : Ty α4} {τ5 : Ty α5} {pre : α1 → α2 → α3 → α4 → α5 → Prop} {f : α1 → α2 → α3 → α4 → α5 → Except Exn γ} {x1 : α1} {x2 : α2} {x3 : α3} {x4 : α4} {x5 : α5} {t : TA} (ha : SmA B Γ t [⟨τ1, x1⟩, ⟨τ2, x2⟩, ⟨τ3, x3⟩, ⟨τ4, x4⟩, ⟨τ5, x5⟩]) (hp : pre x1 x2 x3 x4 x5) : SmX L B Γ (tCallSD (spX5 L τ1 τ2 τ3 τ4 τ5 pre φ f) [] (WE W) t) φ (f x1 x2 x3 x4 x5) W := fun σ Hv H w Q k kx =>
  ha σ Hv H w _ fun us Hv1 H1 g1 rs => by
    show spX5 L τ1 τ2 τ3 τ4 τ5 pre φ f (us ++ []) H1 Q (WE W σ)
    rw [List.append_nil]
    exact ⟨x1, x2, x3, x4, x5, Hv1, g1.vis, rs, hp, fun y q v Hv2 H2 g2 r2 => k y q _ _ _ (g1.trans g2) r2, fun e q cls d Hv2 H2 g2 x => kx e q cls d _ _ (g1.trans g2) x⟩
theorem smx_meth5 {α1 : Type} {α2 : Type} {α3 : Type} {α4 : Type} {α5 : Type} {C : Addr} {sch : α1 → List (Str × As)} {τ2 : Ty α2} {τ3 : Ty α3} {τ4 : Ty α4} {τ5 : Ty α5} {pre : α1 → α2 → α3 → α4 → α5 → Prop} {f : α1 → α2 → α3 → α4 → α5 → Except Exn γ} {m : Str} {x1 : α1} {x2 : α2} {x3 : α3} {x4 : α4} {x5 : α5} {ta : TE} {t : TA} (h : Sm B Γ ta (tObj C sch) x1) (ns : List Str) (hm : ixOf ns m = none) (hns : (sch x1).map (·.1) = ns) (ha : SmA B Γ t [⟨τ2, x2⟩, ⟨τ3, x3⟩, ⟨τ4, x4⟩, ⟨τ5, x5⟩]) (hp : pre x1 x2 x3 x4 x5) : SmX L B Γ (tMethS C m (spX5 L (tObj C sch) τ2 τ3 τ4 τ5 pre φ f) [] (WE W) ta t) φ (f x1 x2 x3 x4 x5) W := fun σ Hv H w Q k kx =>
  h σ Hv H w _ fun v Hv1 H1 g1 rv => by
    have rv' := rv
    obtain ⟨a, dx, fs, ev, h1, r1⟩ := rv
    refine ⟨a, dx, fs, ev, g1.vis _ _ h1, r1.none (by rw [hns]; exact hm), ha σ Hv1 H1 (w.grow g1) _ fun us Hv2 H2 g2 rs => ?_⟩
    show spX5 L (tObj C sch) τ2 τ3 τ4 τ5 pre φ f (v :: (us ++ [])) H2 Q (WE W σ)
    rw [List.append_nil]
    exact ⟨x1, x2, x3, x4, x5, Hv2, g2.vis, .cons ((tObj C sch).mono g2.v rv') rs, hp, fun y q v Hv3 H3 g3 r3 => k y q _ _ _ ((g1.trans g2).trans g3) r3, fun e q cls d Hv3 H3 g3 x => kx e q cls d _ _ ((g1.trans g2).trans g3) x⟩
def spXO5 {α1 : Type} {α2 : Type} {α3 : Type} {α4 : Type} {α5 : Type} (L : ExTab) (τ1 : Ty α1) (τ2 : Ty α2) (τ3 : Ty α3) (τ4 : Ty α4) (τ5 : Ty α5) (pre : α1 → α2 → α3 → α4 → α5 → Prop) (φ : Ty γ) (f : α1 → α2 → α3 → α4 → α5 → Except Exn (List γ)) : Sp := fun vs H Q E => ∃ (x1 : α1) (x2 : α2) (x3 : α3) (x4 : α4) (x5 : α5), ∃ Hv, Same Hv H ∧ Reps Hv vs [⟨τ1, x1⟩, ⟨τ2, x2⟩, ⟨τ3, x3⟩, ⟨τ4, x4⟩, ⟨τ5, x5⟩] ∧ pre x1 x2 x3 x4 x5 ∧ (∀ y, f x1 x2 x3 x4 x5 = .ok y → ∀ l us Hv' H', Grow Hv H Hv' H' → H l = none → H' l = some (.lst us) → Hv' l = none → Paired (φ.rep Hv') us y → Q (.ref l) H') ∧ ∀ e, f x1 x2 x3 x4 x5 = .error e → ∀ cls d Hv' H', Grow Hv H Hv' H' → ExAt L Hv' e cls d → E cls d H'
theorem spXO5_len {α1 : Type} {α2 : Type} {α3 : Type} {α4 : Type} {α5 : Type} {τ1 : Ty α1} {τ2 : Ty α2} {τ3 : Ty α3} {τ4 : Ty α4} {τ5 : Ty α5} {pre : α1 → α2 → α3 → α4 → α5 → Prop} {f : α1 → α2 → α3 → α4 → α5 → Except Exn (List γ)} (h : spXO5 L τ1 τ2 τ3 τ4 τ5 pre φ f vs H Q E) : vs.length = 5 := by
  obtain ⟨_, _, _, _, _, _, _, r, _⟩ := h
  exact r.len
theorem spXO5_body {α1 : Type} {α2 : Type} {α3 : Type} {α4 : Type} {α5 : Type} {τ1 : Ty α1} {τ2 : Ty α2} {τ3 : Ty α3} {τ4 : Ty α4} {τ5 : Ty α5} {pre : α1 → α2 → α3 → α4 → α5 → Prop} {f : α1 → α2 → α3 → α4 → α5 → Except Exn (List γ)} {N : List Str} {t : TS} (hl : 5 ≤ N.length) (h : spXO5 L τ1 τ2 τ3 τ4 τ5 pre φ f vs H Q E) (hb : ∀ B0 : Bs, B0.n = N.length → ∀ (x1 : α1) (x2 : α2) (x3 : α3) (x4 : α4) (x5 : α5), pre x1 x2 x3 x4 x5 → RtXO L B0 φ (f x1 x2 x3 x4 x5) Q E → G B0 t [(0, .fz τ1 x1), (1, .fz τ2 x2), (2, .fz τ3 x3), (3, .fz τ4 x4), (4, .fz τ5 x5)] { nx := fun _ H' => Q .non H', rt := Q }) : t { nx := fun _ H' => Q .non H', rt := Q } (L2.start N vs) H := by
  obtain ⟨x1, x2, x3, x4, x5, Hv, vis, rs, p, k, kx⟩ := h
  exact hb ⟨H, Hv, fun _ => False, N.length⟩ rfl x1 x2 x3 x4 x5 p ⟨fun _ z => z, k, kx⟩ _ _ _ (wd_start vis rs hl)
theorem smxo_call5 {α1 : Type} {α2 : Type} {α3 : Type} {α4 : Type} {α5 : Type} {τ1 : Ty α1} {τ2 : Ty α2} {τ3 : Ty α3} {τ4 : Ty α4} {τ5 : Ty α5} {pre : α1 → α2 → α3 → α4 → α5 → Prop} {f : α1 → α2 → α3 → α4 → α5 → Except Exn (List γ)} {x1 : α1} {x2 : α2} {x3 : α3} {x4 : α4} {x5 : α5} {t : TA} (ha : SmA B Γ t [⟨τ1, x1⟩, ⟨τ2, x2⟩, ⟨τ3, x3⟩, ⟨τ4, x4⟩, ⟨τ5, x5⟩]) (hp : pre x1 x2 x3 x4 x5) : SmXO L B Γ (tCallSD (spXO5 L τ1 τ2 τ3 τ4 τ5 pre φ f) [] (WE W) t) φ (f x1 x2 x3 x4 x5) W := fun σ Hv H w Q k kx =>
  ha σ Hv H w _ fun us Hv1 H1 g1 rs => by
    show spXO5 L τ1 τ2 τ3 τ4 τ5 pre φ f (us ++ []) H1 Q (WE W σ)
    rw [List.append_nil]
    exact ⟨x1, x2, x3, x4, x5, Hv1, g1.vis, rs, hp, fun y q l us Hv2 H2 g2 e0 e1 e2 r2 => k y q _ _ _ _ (g1.trans g2) (Same.free g1.s e0) e1 e2 r2, fun e q cls d Hv2 H2 g2 x => kx e q cls d _ _ (g1.trans g2) x⟩
theorem smxo_meth5 {α1 : Type} {α2 : Type} {α3 : Type} {α4 : Type} {α5 : Type} {C : Addr} {sch : α1 → List (Str × As)} {τ2 : Ty α2} {τ3 : Ty α3} {τ4 : Ty α4} {τ5 : Ty α5} {pre : α1 → α2 → α3 → α4 → α5 → Prop} {f : α1 → α2 → α3 → α4 → α5 → Except Exn (List γ)} {m : Str} {x1 : α1} {x2 : α2} {x3 : α3} {x4 : α4} {x5 : α5} {ta : TE} {t : TA} (h : Sm B Γ ta (tObj C sch) x1) (ns : List Str) (hm : ixOf ns m = none) (hns : (sch x1).map (·.1) = ns) (ha : SmA B Γ t [⟨τ2, x2⟩, ⟨τ3, x3⟩, ⟨τ4, x4⟩, ⟨τ5, x5⟩]) (hp : pre x1 x2 x3 x4 x5) : SmXO L B Γ (tMethS C m (spXO5 L (tObj C sch) τ2 τ3 τ4 τ5 pre φ f) [] (WE W) ta t) φ (f x1 x2 x3 x4 x5) W := fun σ Hv H w Q k kx =>
  h σ Hv H w _ fun v Hv1 H1 g1 rv => by
    have rv' := rv
    obtain ⟨a, dx, fs, ev, h1, r1⟩ := rv
    refine ⟨a, dx, fs, ev, g1.vis _ _ h1, r1.none (by rw [hns]; exact hm), ha σ Hv1 H1 (w.grow g1) _ fun us Hv2 H2 g2 rs => ?_⟩
    show spXO5 L (tObj C sch) τ2 τ3 τ4 τ5 pre φ f (v :: (us ++ [])) H2 Q (WE W σ)
    rw [List.append_nil]
    exact ⟨x1, x2, x3, x4, x5, Hv2, g2.vis, .cons ((tObj C sch).mono g2.v rv') rs, hp, fun y q l us Hv3 H3 g3 e0 e1 e2 r3 => k y q _ _ _ _ ((g1.trans g2).trans g3) (Same.free (g1.trans g2).s e0) e1 e2 r3, fun e q cls d Hv3 H3 g3 x => kx e q cls d _ _ ((g1.trans g2).trans g3) x⟩
def spX6 {α1 : Type} {α2 : Type} {α3 : Type} {α4 : Type} {α5 : Type} {α6 : Type} (L : ExTab) (τ1 : Ty α1) (τ2 : Ty α2) (τ3 : Ty α3) (τ4 : Ty α4) (τ5 : Ty α5) (τ6 : Ty α6) (pre : α1 → α2 → α3 → α4 → α5 → α6 → Prop) (φ : Ty γ) (f : α1 → α2 → α3 → α4 → α5 → α6 → Except Exn γ) : Sp := fun vs H Q E => ∃ (x1 : α1) (x2 : α2) (x3 : α3) (x4 : α4) (x5 : α5) (x6 : α6), ∃ Hv, Same Hv H ∧ Reps Hv vs [⟨τ1, x1⟩, ⟨τ2, x2⟩, ⟨τ3, x3⟩, ⟨τ4, x4⟩, ⟨τ5, x5⟩, ⟨τ6, x6⟩] ∧ pre x1 x2 x3 x4 x5 x6 ∧ (∀ y, f x1 x2 x3 x4 x5 x6 = .ok y → ∀ v Hv' H', Grow Hv H Hv' H' → φ.rep Hv' v y → Q v H') ∧ ∀ e, f x1 x2 x3 x4 x5 x6 = .error e → ∀ cls d Hv' H', Grow Hv H Hv' H' → ExAt L Hv' e cls d → E cls d H'
theorem spX6_len {α1 : Type} {α2 : Type} {α3 : Type} {α4 : Type} {α5 : Type} {α6 : Type} {τ1 : Ty α1} {τ2 : Ty α2} {τ3 : Ty α3} {τ4 : Ty α4} {τ5 : Ty α5} {τ6 : Ty α6} {pre : α1 → α2 → α3 → α4 → α5 → α6 → Prop} {f : α1 → α2 → α3 → α4 → α5 → α6 → Except Exn γ} (h : spX6 L τ1 τ2 τ3 τ4 τ5 τ6 pre φ f vs H Q E) : vs.length = 6 := by
  obtain ⟨_, _, _, _, _, _, _, _, r, _⟩ := h
  exact r.len
theorem spX6_body {α1 : Type} {α2 : Type} {α3 : Type} {α4 : Type} {α5 : Type} {α6 : Type} {τ1 : Ty α1} {τ2 : Ty α2} {τ3 : Ty α3} {τ4 : Ty α4} {τ5 : Ty α5} {τ6 : Ty α6} {pre : α1 → α2 → α3 → α4 → α5 → α6 → Prop} {f : α1 → α2 → α3 → α4 → α5 → α6 → Except Exn γ} {N : List Str} {t : TS} (hl : 6 ≤ N.length) (h : spX6 L τ1 τ2 τ3 τ4 τ5 τ6 pre φ f vs H Q E) (hb : ∀ B0 : Bs, B0.n = N.length → ∀ (x1 : α1) (x2 : α2) (x3 : α3) (x4 : α4) (x5 : α5) (x6 : α6), pre x1 x2 x3 x4 x5 x6 → RtX L B0 φ (f x1 x2 x3 x4 x5 x6) Q E → G B0 t [(0, .fz τ1 x1), (1, .fz τ2 x2), (2, .fz τ3 x3), (3, .fz τ4 x4), (4, .fz τ5 x5), (5, .fz τ6 x6)] { nx := fun _ H' => Q .non H', rt := Q }) : t { nx := fun _ H' => Q .non H', rt := Q } (L2.start N vs) H := by
  obtain ⟨x1, x2, x3, x4, x5, x6, Hv, vis, rs, p, k, kx⟩ := h
  exact hb ⟨H, Hv, fun _ => False, N.length⟩ rfl x1 x2 x3 x4 x5 x6 p ⟨fun _ z => z, k, kx⟩ _ _ _ (wd_start vis rs hl)
theorem smx_call6 {α1 : Type} {α2 : Type} {α3 : Type} {α4 : Type} {α5 : Type} {α6 : Type} {τ1 : Ty α1} {τ2 : Ty α2} {τ3 : Ty α3} {τ4 : Ty α4} {τ5 : Ty α5} {τ6 : Ty α6} {pre : α1 → α2 → α3 → α4 → α5 → α6 → Prop} {f : α1 → α2 → α3 → α4 → α5 → α6 → Except Exn γ} {x1 : α1} {x2 : α2} {x3 : α3} {x4 : α4} {x5 : α5} {x6 : α6} {t : TA} (ha : SmA B Γ t [⟨τ1, x1⟩, ⟨τ2, x2⟩, ⟨τ3, x3⟩, ⟨τ4, x4⟩, ⟨τ5, x5⟩, ⟨τ6, x6⟩]) (hp : pre x1 x2 x3 x4 x5 x6) : SmX L B Γ (tCallSD (spX6 L τ1 τ2 τ3 τ4 τ5 τ6 pre φ f) [] (WE W) t) φ (f x1 x2 x3 x4 x5 x6) W := fun σ Hv H w Q k kx =>
  ha σ Hv H w _ fun us Hv1 H1 g1 rs => by
    show spX6 L τ1 τ2 τ3 τ4 τ5 τ6 pre φ f (us ++ []) H1 Q (WE W σ)
    rw [List.append_nil]
    exact ⟨x1, x2, x3, x4, x5, x6, Hv1, g1.vis, rs, hp, fun y q v Hv2 H2 g2 r2 => k y q _ _ _ (g1.trans g2) r2, fun e q cls d Hv2 H2 g2 x => kx e q cls d _ _ (g1.trans g2) x⟩
theorem smx_meth6 {α1 : Type} {α2 : Type} {α3 : Type} {α4 : Type} {α5 : Type} {α6 : Type} {C : Addr} {sch : α1 → List (Str × As)} {τ2 : Ty α2} {τ3 : Ty α3} {τ4 : Ty α4} {τ5 : Ty α5} {τ6 : Ty α6} {pre : α1 → α2 → α3 → α4 → α5 → α6 → Prop} {f : α1 → α2 → α3 → α4 → α5 → α6 → Except Exn γ} {m : Str} {x1 : α1} {x2 : α2} {x3 : α3} {x4 : α4} {x5 : α5} {x6 : α6} {ta : TE} {t : TA} (h : Sm B Γ ta (tObj C sch) x1) (ns : List Str) (hm : ixOf ns m = none) (hns : (sch x1).map (·.1) = ns) (ha : SmA B Γ t [⟨τ2, x2⟩, ⟨τ3, x3⟩, ⟨τ4, x4⟩, ⟨τ5, x5⟩, ⟨τ6, x6⟩]) (hp : pre x1 x2 x3 x4 x5 x6) : SmX L B Γ (tMethS C m (spX6 L (tObj C sch) τ2 τ3 τ4 τ5 τ6 pre φ f) [] (WE W) ta t) φ (f x1 x2 x3 x4 x5 x6) W := fun σ Hv H w Q k kx =>
  h σ Hv H w _ fun v Hv1 H1 g1 rv => by
    have rv' := rv
    obtain ⟨a, dx, fs, ev, h1, r1⟩ := rv
    refine ⟨a, dx, fs, ev, g1.vis _ _ h1, r1.none (by rw [hns]; exact hm), ha σ Hv1 H1 (w.grow g1) _ fun us Hv2 H2 g2 rs => ?_⟩
    show spX6 L (tObj C sch) τ2 τ3 τ4 τ5 τ6 pre φ f (v :: (us ++ [])) H2 Q (WE W σ)
    rw [List.append_nil]
    exact ⟨x1, x2, x3, x4, x5, x6, Hv2, g2.vis, .cons ((tObj C sch).mono g2.v rv') rs, hp, fun y q v Hv3 H3 g3 r3 => k y q _ _ _ ((g1.trans g2).trans g3) r3, fun e q cls d Hv3 H3 g3 x => kx e q cls d _ _ ((g1.trans g2).trans g3) x⟩
def spXO6 {α1 : Type} {α2 : Type} {α3 : Type} {α4 : Type} {α5 : Type} {α6 : Type} (L : ExTab) (τ1 : Ty α1) (τ2 : Ty α2) (τ3 : Ty α3) (τ4 : Ty α4) (τ5 : Ty α5) (τ6 : Ty α6) (pre : α1 → α2 → α3 → α4 → α5 → α6 → Prop) (φ : Ty γ) (f : α1 → α2 → α3 → α4 → α5 → α6 → Except Exn (List γ)) : Sp := fun vs H Q E => ∃ (x1 : α1) (x2 : α2) (x3 : α3) (x4 : α4) (x5 : α5) (x6 : α6), ∃ Hv, Same Hv H ∧ Reps Hv vs [⟨τ1, x1⟩, ⟨τ2, x2⟩, ⟨τ3, x3⟩, ⟨τ4, x4⟩, ⟨τ5, x5⟩, ⟨τ6, x6⟩] ∧ pre x1 x2 x3 x4 x5 x6 ∧ (∀ y, f x1 x2 x3 x4 x5 x6 = .ok y → ∀ l us Hv' H', Grow Hv H Hv' H' → H l = none → H' l = some (.lst us) → Hv' l = none → Paired (φ.rep Hv') us y → Q (.ref l) H') ∧ ∀ e, f x1 x2 x3 x4 x5 x6 = .error e → ∀ cls d Hv' H', Grow Hv H Hv' H' → ExAt L Hv' e cls d → E cls d H'
theorem spXO6_len {α1 : Type} {α2 : Type} {α3 : Type} {α4 : Type} {α5 : Type} {α6 : Type} {τ1 : Ty α1} {τ2 : Ty α2} {τ3 : Ty α3} {τ4 : Ty α4} {τ5 : Ty α5} {τ6 : Ty α6} {pre : α1 → α2 → α3 → α4 → α5 → α6 → Prop} {f : α1 → α2 → α3 → α4 → α5 → α6 → Except Exn (List γ)} (h : spXO6 L τ1 τ2 τ3 τ4 τ5 τ6 pre φ f vs H Q E) : vs.length = 6 := by
  obtain ⟨_, _, _, _, _, _, _, _, r, _⟩ := h
  exact r.len
theorem spXO6_body {α1 : Type} {α2 : Type} {α3 : Type} {α4 : Type} {α5 : Type} {α6 : Type} {τ1 : Ty α1} {τ2 : Ty α2} {τ3 : Ty α3} {τ4 : Ty α4} {τ5 : Ty α5} {τ6 : Ty α6} {pre : α1 → α2 → α3 → α4 → α5 → α6 → Prop} {f : α1 → α2 → α3 → α4 → α5 → α6 → Except Exn (List γ)} {N : List Str} {t : TS} (hl : 6 ≤ N.length) (h : spXO6 L τ1 τ2 τ3 τ4 τ5 τ6 pre φ f vs H Q E) (hb : ∀ B0 : Bs, B0.n = N.length → ∀ (x1 : α1) (x2 : α2) (x3 : α3) (x4 : α4) (x5 : α5) (x6 : α6), pre x1 x2 x3 x4 x5 x6 → RtXO L B0 φ (f x1 x2 x3 x4 x5 x6) Q E → G B0 t [(0, .fz τ1 x1), (1, .fz τ2 x2), (2, .fz τ3 x3), (3, .fz τ4 x4), (4, .fz τ5 x5), (5, .fz τ6 x6)] { nx := fun _ H' => Q .non H', rt := Q }) : t { nx := fun _ H' => Q .non H', rt := Q } (L2.start N vs) H := by
  obtain ⟨x1, x2, x3, x4, x5, x6, Hv, vis, rs, p, k, kx⟩ := h
  exact hb ⟨H, Hv, fun _ => False, N.length⟩ rfl x1 x2 x3 x4 x5 x6 p ⟨fun _ z => z, k, kx⟩ _ _ _ (wd_start vis rs hl)
theorem smxo_call6 {α1 : Type} {α2 : Type} {α3 : Type} {α4 : Type} {α5 : Type} {α6 : Type} {τ1 : Ty α1} {τ2 : Ty α2} {τ3 : Ty α3} {τ4 : Ty α4} {τ5 : Ty α5} {τ6 : Ty α6} {pre : α1 → α2 → α3 → α4 → α5 → α6 → Prop} {f : α1 → α2 → α3 → α4 → α5 → α6 → Except Exn (List γ)} {x1 : α1} {x2 : α2} {x3 : α3} {x4 : α4} {x5 : α5} {x6 : α6} {t : TA} (ha : SmA B Γ t [⟨τ1, x1⟩, ⟨τ2, x2⟩, ⟨τ3, x3⟩, ⟨τ4, x4⟩, ⟨τ5, x5⟩, ⟨τ6, x6⟩]) (hp : pre x1 x2 x3 x4 x5 x6) : SmXO L B Γ (tCallSD (spXO6 L τ1 τ2 τ3 τ4 τ5 τ6 pre φ f) [] (WE W) t) φ (f x1 x2 x3 x4 x5 x6) W := fun σ Hv H w Q k kx =>
  ha σ Hv H w _ fun us Hv1 H1 g1 rs => by
    show spXO6 L τ1 τ2 τ3 τ4 τ5 τ6 pre φ f (us ++ []) H1 Q (WE W σ)
    rw [List.append_nil]
    exact ⟨x1, x2, x3, x4, x5, x6, Hv1, g1.vis, rs, hp, fun y q l us Hv2 H2 g2 e0 e1 e2 r2 => k y q _ _ _ _ (g1.trans g2) (Same.free g1.s e0) e1 e2 r2, fun e q cls d Hv2 H2 g2 x => kx e q cls d _ _ (g1.trans g2) x⟩
theorem smxo_meth6 {α1 : Type} {α2 : Type} {α3 : Type} {α4 : Type} {α5 : Type} {α6 : Type} {C : Addr} {sch : α1 → List (Str × As)} {τ2 : Ty α2} {τ3 : Ty α3} {τ4 : Ty α4} {τ5 : Ty α5} {τ6 : Ty α6} {pre : α1 → α2 → α3 → α4 → α5 → α6 → Prop} {f : α1 → α2 → α3 → α4 → α5 → α6 → Except Exn (List γ)} {m : Str} {x1 : α1} {x2 : α2} {x3 : α3} {x4 : α4} {x5 : α5} {x6 : α6} {ta : TE} {t : TA} (h : Sm B Γ ta (tObj C sch) x1) (ns : List Str) (hm : ixOf ns m = none) (hns : (sch x1).map (·.1) = ns) (ha : SmA B Γ t [⟨τ2, x2⟩, ⟨τ3, x3⟩, ⟨τ4, x4⟩, ⟨τ5, x5⟩, ⟨τ6, x6⟩]) (hp : pre x1 x2 x3 x4 x5 x6) : SmXO L B Γ (tMethS C m (spXO6 L (tObj C sch) τ2 τ3 τ4 τ5 τ6 pre φ f) [] (WE W) ta t) φ (f x1 x2 x3 x4 x5 x6) W := fun σ Hv H w Q k kx =>
  h σ Hv H w _ fun v Hv1 H1 g1 rv => by
    have rv' := rv
    obtain ⟨a, dx, fs, ev, h1, r1⟩ := rv
    refine ⟨a, dx, fs, ev, g1.vis _ _ h1, r1.none (by rw [hns]; exact hm), ha σ Hv1 H1 (w.grow g1) _ fun us Hv2 H2 g2 rs => ?_⟩
    show spXO6 L (tObj C sch) τ2 τ3 τ4 τ5 τ6 pre φ f (v :: (us ++ [])) H2 Q (WE W σ)
    rw [List.append_nil]
    exact ⟨x1, x2, x3, x4, x5, x6, Hv2, g2.vis, .cons ((tObj C sch).mono g2.v rv') rs, hp, fun y q l us Hv3 H3 g3 e0 e1 e2 r3 => k y q _ _ _ _ ((g1.trans g2).trans g3) (Same.free (g1.trans g2).s e0) e1 e2 r3, fun e q cls d Hv3 H3 g3 x => kx e q cls d _ _ ((g1.trans g2).trans g3) x⟩
end
section
variable {B : Bs} {Γ : Cxt} {H : Hp} {vs : List V} {Q : VK} {E : XK} {K : PySem.W.Frag} {δ : Type} {C : Addr} {sch : δ → List (Str × As)} {L : ExTab} {W : WX}
def spIX0  (L : ExTab)  (pre : Prop) (C : Addr) (sch : δ → List (Str × As)) (f : Except Exn δ) : Sp := fun vs H Q E => ∃ (p dx : Addr) (us : List V) (Hv : Hp), vs = .ref p :: us ∧ H p = some (.ins C dx []) ∧ Hv p = none ∧ Same Hv H ∧ Reps Hv us [] ∧ pre ∧ (∀ y, f = .ok y → ∀ Hv' H' fs, (∀ b o, b ≠ p → H b = some o → H' b = some o) → Same Hv Hv' → Same Hv' H' → (∀ b, b ≠ p → H b ≠ none → Hv b = none → Hv' b = none) → H' p = some (.ins C dx fs) → Hv' p = none → FsRep Hv' fs (sch y) → Q .non H') ∧ ∀ e, f = .error e → ∀ cls d Hv' H', (∀ b o, b ≠ p → H b = some o → H' b = some o) → Same Hv Hv' → Same Hv' H' → (∀ b, b ≠ p → H b ≠ none → Hv b = none → Hv' b = none) → ExAt L Hv' e cls d → E cls d H'
theorem spIX0_len   {pre : Prop} {f : Except Exn δ} (h : spIX0 L pre C sch f vs H Q E) : vs.length = 1 := by
  obtain ⟨_, _, us, _, rfl, _, _, _, r, _⟩ := h
  exact congrArg (· + 1) r.len
theorem spIX0_body   {pre : Prop} {f : Except Exn δ} {N : List Str} {t : TS} (hl : 1 ≤ N.length) (h : spIX0 L pre C sch f vs H Q E) (hb : ∀ B0 : Bs, B0.n = N.length → ∀ p dx, pre → RtIX L B0 p dx C sch (f) Q E → G B0 t [(0, .ob p dx C [])] { nx := fun _ H' => Q .non H', rt := Q }) : t { nx := fun _ H' => Q .non H', rt := Q } (L2.start N vs) H := by
  obtain ⟨p, dx, us, Hv, rfl, hp, hv, vis, rs, pr, k, kx⟩ := h
  have hlen : us.length = 0 := rs.len
  refine hb ⟨H, Hv, (· = p), N.length⟩ rfl p dx  pr ⟨fun _ z => z, fun y q => ⟨fun _ z => z, fun Hv' H' fs h1 h2 h3 h4 h5 h6 h7 => k y q Hv' H' fs h1 h2 h3 h4 h5 h6 h7⟩, kx⟩ _ Hv H ?_
  have hat : ∀ k v, us[k]? = some v → (L2.start N (V.ref p :: us))[1 + k]? = some (some v) := fun k v hk => by
    have hk' := (List.getElem?_eq_some_iff.mp hk).1
    unfold L2.start
    rw [List.getElem?_append_left (by simp; omega), Nat.add_comm, List.getElem?_map, List.getElem?_cons_succ, hk]
    rfl
  have h0 : (L2.start N (V.ref p :: us))[0]? = some (some (.ref p)) := rfl
  refine ⟨?_, vis, fun _ _ _ e => e, fun _ n => n, Same.refl _, fun _ _ _ z => z, fun i e m => ?_, fun i e l m c s => ?_, fun i j e f l m m' c c' n s s' => ?_⟩
  · unfold L2.start
    rw [List.length_append, List.length_map, List.length_replicate, List.length_cons]
    show us.length + 1 + (N.length - (us.length + 1)) = N.length
    omega
  · rcases List.mem_cons.mp m with q | m
    · cases q
      exact ⟨[], h0, hp, hv, .nil⟩
    · exact argC_at (i := 1) (as := []) rs hat i e m
  · rcases List.mem_cons.mp m with q | m
    · cases q
      rw [h0] at s
      cases s
      exact .inr rfl
    · rw [(argC_ge (as := []) (i := 1) m).2] at c
      cases c
  · rcases List.mem_cons.mp m with q | m
    · rcases List.mem_cons.mp m' with q' | m'
      · cases q
        cases q'
        exact n rfl
      · rw [(argC_ge (as := []) (i := 1) m').2] at c'
        cases c'
    · rw [(argC_ge (as := []) (i := 1) m).2] at c
      cases c
theorem smx_make0   {pre : Prop} {f : Except Exn δ}  {t : TA} (ha : SmA B Γ t []) (hp : pre) : SmX L B Γ (tMakeS C (spIX0 L pre C sch f) [] (WE W) t) (tObj C sch) (f) W := fun σ Hv H w Q k kx =>
  ha σ Hv H w _ fun us Hv1 H1 g1 rs => fun x dx hx hdx ndx => by
    show spIX0 L pre C sch f (V.ref x :: (us ++ [])) _ _ (WE W σ)
    rw [List.append_nil]
    have vx := Same.free g1.vis hx
    have s0 : Same H1 (upd (upd H1 dx (.own x)) x (.ins C dx [])) := fun b o e => by
      rw [upd_ne (ne_of_none e hx), upd_ne (ne_of_none e hdx)]
      exact e
    refine ⟨x, dx, us, Hv1, rfl, upd_same, vx, Same.trans g1.vis s0, rs, hp, fun y q Hv' H' fs h1 h2 h3 h4 h5 h6 h7 => ⟨rfl, ?_⟩, fun e q cls d Hv' H' h1 h2 h3 h4 hx' => kx e q cls d Hv' H' (g1.trans ⟨fun b o e => h1 b o (ne_of_none e hx) (s0 _ _ e), h2, h3, fun b n z => h4 b (fun q => n (by rw [q]; exact hx)) (Same.some_ne s0 n) z⟩) hx'⟩
    have s1 := same_upd (o := .ins C dx fs) h6
    refine k y q (.ref x) (upd Hv' x (.ins C dx fs)) H' (g1.trans ⟨fun b o e => h1 b o (ne_of_none e hx) (s0 _ _ e), Same.trans h2 s1, fun b o e => ?_, fun b n z => ?_⟩) ⟨x, dx, fs, rfl, upd_same, h7.up s1⟩
    · by_cases hb : b = x
      · subst hb
        rw [upd_same] at e
        cases e
        exact h5
      · rw [upd_ne hb] at e
        exact h3 _ _ e
    · have hb : b ≠ x := fun q => n (by rw [q]; exact hx)
      rw [upd_ne hb]
      exact h4 b hb (Same.some_ne s0 n) z
def spIX1 {α1 : Type} (L : ExTab) (τ1 : Ty α1) (pre : α1 → Prop) (C : Addr) (sch : δ → List (Str × As)) (f : α1 → Except Exn δ) : Sp := fun vs H Q E => ∃ (x1 : α1), ∃ (p dx : Addr) (us : List V) (Hv : Hp), vs = .ref p :: us ∧ H p = some (.ins C dx []) ∧ Hv p = none ∧ Same Hv H ∧ Reps Hv us [⟨τ1, x1⟩] ∧ pre x1 ∧ (∀ y, f x1 = .ok y → ∀ Hv' H' fs, (∀ b o, b ≠ p → H b = some o → H' b = some o) → Same Hv Hv' → Same Hv' H' → (∀ b, b ≠ p → H b ≠ none → Hv b = none → Hv' b = none) → H' p = some (.ins C dx fs) → Hv' p = none → FsRep Hv' fs (sch y) → Q .non H') ∧ ∀ e, f x1 = .error e → ∀ cls d Hv' H', (∀ b o, b ≠ p → H b = some o → H' b = some o) → Same Hv Hv' → Same Hv' H' → (∀ b, b ≠ p → H b ≠ none → Hv b = none → Hv' b = none) → ExAt L Hv' e cls d → E cls d H'
theorem spIX1_len {α1 : Type} {τ1 : Ty α1} {pre : α1 → Prop} {f : α1 → Except Exn δ} (h : spIX1 L τ1 pre C sch f vs H Q E) : vs.length = 2 := by
  obtain ⟨_, _, _, us, _, rfl, _, _, _, r, _⟩ := h
  exact congrArg (· + 1) r.len
theorem spIX1_body {α1 : Type} {τ1 : Ty α1} {pre : α1 → Prop} {f : α1 → Except Exn δ} {N : List Str} {t : TS} (hl : 2 ≤ N.length) (h : spIX1 L τ1 pre C sch f vs H Q E) (hb : ∀ B0 : Bs, B0.n = N.length → ∀ p dx, ∀ (x1 : α1), pre x1 → RtIX L B0 p dx C sch (f x1) Q E → G B0 t [(0, .ob p dx C []), (1, .fz τ1 x1)] { nx := fun _ H' => Q .non H', rt := Q }) : t { nx := fun _ H' => Q .non H', rt := Q } (L2.start N vs) H := by
  obtain ⟨x1, p, dx, us, Hv, rfl, hp, hv, vis, rs, pr, k, kx⟩ := h
  have hlen : us.length = 1 := rs.len
  refine hb ⟨H, Hv, (· = p), N.length⟩ rfl p dx x1 pr ⟨fun _ z => z, fun y q => ⟨fun _ z => z, fun Hv' H' fs h1 h2 h3 h4 h5 h6 h7 => k y q Hv' H' fs h1 h2 h3 h4 h5 h6 h7⟩, kx⟩ _ Hv H ?_
  have hat : ∀ k v, us[k]? = some v → (L2.start N (V.ref p :: us))[1 + k]? = some (some v) := fun k v hk => by
    have hk' := (List.getElem?_eq_some_iff.mp hk).1
    unfold L2.start
    rw [List.getElem?_append_left (by simp; omega), Nat.add_comm, List.getElem?_map, List.getElem?_cons_succ, hk]
    rfl
  have h0 : (L2.start N (V.ref p :: us))[0]? = some (some (.ref p)) := rfl
  refine ⟨?_, vis, fun _ _ _ e => e, fun _ n => n, Same.refl _, fun _ _ _ z => z, fun i e m => ?_, fun i e l m c s => ?_, fun i j e f l m m' c c' n s s' => ?_⟩
  · unfold L2.start
    rw [List.length_append, List.length_map, List.length_replicate, List.length_cons]
    show us.length + 1 + (N.length - (us.length + 1)) = N.length
    omega
  · rcases List.mem_cons.mp m with q | m
    · cases q
      exact ⟨[], h0, hp, hv, .nil⟩
    · exact argC_at (i := 1) (as := [⟨τ1, x1⟩]) rs hat i e m
  · rcases List.mem_cons.mp m with q | m
    · cases q
      rw [h0] at s
      cases s
      exact .inr rfl
    · rw [(argC_ge (as := [⟨τ1, x1⟩]) (i := 1) m).2] at c
      cases c
  · rcases List.mem_cons.mp m with q | m
    · rcases List.mem_cons.mp m' with q' | m'
      · cases q
        cases q'
        exact n rfl
      · rw [(argC_ge (as := [⟨τ1, x1⟩]) (i := 1) m').2] at c'
        cases c'
    · rw [(argC_ge (as := [⟨τ1, x1⟩]) (i := 1) m).2] at c
      cases c
theorem smx_make1 {α1 : Type} {τ1 : Ty α1} {pre : α1 → Prop} {f : α1 → Except Exn δ} {x1 : α1} {t : TA} (ha : SmA B Γ t [⟨τ1, x1⟩]) (hp : pre x1) : SmX L B Γ (tMakeS C (spIX1 L τ1 pre C sch f) [] (WE W) t) (tObj C sch) (f x1) W := fun σ Hv H w Q k kx =>
  ha σ Hv H w _ fun us Hv1 H1 g1 rs => fun x dx hx hdx ndx => by
    show spIX1 L τ1 pre C sch f (V.ref x :: (us ++ [])) _ _ (WE W σ)
    rw [List.append_nil]
    have vx := Same.free g1.vis hx
    have s0 : Same H1 (upd (upd H1 dx (.own x)) x (.ins C dx [])) := fun b o e => by
      rw [upd_ne (ne_of_none e hx), upd_ne (ne_of_none e hdx)]
      exact e
    refine ⟨x1, x, dx, us, Hv1, rfl, upd_same, vx, Same.trans g1.vis s0, rs, hp, fun y q Hv' H' fs h1 h2 h3 h4 h5 h6 h7 => ⟨rfl, ?_⟩, fun e q cls d Hv' H' h1 h2 h3 h4 hx' => kx e q cls d Hv' H' (g1.trans ⟨fun b o e => h1 b o (ne_of_none e hx) (s0 _ _ e), h2, h3, fun b n z => h4 b (fun q => n (by rw [q]; exact hx)) (Same.some_ne s0 n) z⟩) hx'⟩
    have s1 := same_upd (o := .ins C dx fs) h6
    refine k y q (.ref x) (upd Hv' x (.ins C dx fs)) H' (g1.trans ⟨fun b o e => h1 b o (ne_of_none e hx) (s0 _ _ e), Same.trans h2 s1, fun b o e => ?_, fun b n z => ?_⟩) ⟨x, dx, fs, rfl, upd_same, h7.up s1⟩
    · by_cases hb : b = x
      · subst hb
        rw [upd_same] at e
        cases e
        exact h5
      · rw [upd_ne hb] at e
        exact h3 _ _ e
    · have hb : b ≠ x := fun q => n (by rw [q]; exact hx)
      rw [upd_ne hb]
      exact h4 b hb (Same.some_ne s0 n) z
def spIX2 {α1 : Type} {α2 : Type} (L : ExTab) (τ1 : Ty α1) (τ2 : Ty α2) (pre : α1 → α2 → Prop) (C : Addr) (sch : δ → List (Str × As)) (f : α1 → α2 → Except Exn δ) : Sp := fun vs H Q E => ∃ (x1 : α1) (x2 : α2), ∃ (p dx : Addr) (us : List V) (Hv : Hp), vs = .ref p :: us ∧ H p = some (.ins C dx []) ∧ Hv p = none ∧ Same Hv H ∧ Reps Hv us [⟨τ1, x1⟩, ⟨τ2, x2⟩] ∧ pre x1 x2 ∧ (∀ y, f x1 x2 = .ok y → ∀ Hv' H' fs, (∀ b o, b ≠ p → H b = some o → H' b = some o) → Same Hv Hv' → Same Hv' H' → (∀ b, b ≠ p → H b ≠ none → Hv b = none → Hv' b = none) → H' p = some (.ins C dx fs) → Hv' p = none → FsRep Hv' fs (sch y) → Q .non H') ∧ ∀ e, f x1 x2 = .error e → ∀ cls d Hv' H', (∀ b o, b ≠ p → H b = some o → H' b = some o) → Same Hv Hv' → Same Hv' H' → (∀ b, b ≠ p → H b ≠ none → Hv b = none → Hv' b = none) → ExAt L Hv' e cls d → E cls d H'
theorem spIX2_len {α1 : Type} {α2 : Type} {τ1 : Ty α1} {τ2 : Ty α2} {pre : α1 → α2 → Prop} {f : α1 → α2 → Except Exn δ} (h : spIX2 L τ1 τ2 pre C sch f vs H Q E) : vs.length = 3 := by
  obtain ⟨_, _, _, _, us, _, rfl, _, _, _, r, _⟩ := h
  exact congrArg (· + 1) r.len
theorem spIX2_body {α1 : Type} {α2 : Type} {τ1 : Ty α1} {τ2 : Ty α2} {pre : α1 → α2 → Prop} {f : α1 → α2 → Except Exn δ} {N : List Str} {t : TS} (hl : 3 ≤ N.length) (h : spIX2 L τ1 τ2 pre C sch f vs H Q E) (hb : ∀ B0 : Bs, B0.n = N.length → ∀ p dx, ∀ (x1 : α1) (x2 : α2), pre x1 x2 → RtIX L B0 p dx C sch (f x1 x2) Q E → G B0 t [(0, .ob p dx C []), (1, .fz τ1 x1), (2, .fz τ2 x2)] { nx := fun _ H' => Q .non H', rt := Q }) : t { nx := fun _ H' => Q .non H', rt := Q } (L2.start N vs) H := by
  obtain ⟨x1, x2, p, dx, us, Hv, rfl, hp, hv, vis, rs, pr, k, kx⟩ := h
  have hlen : us.length = 2 := rs.len
  refine hb ⟨H, Hv, (· = p), N.length⟩ rfl p dx x1 x2 pr ⟨fun _ z => z, fun y q => ⟨fun _ z => z, fun Hv' H' fs h1 h2 h3 h4 h5 h6 h7 => k y q Hv' H' fs h1 h2 h3 h4 h5 h6 h7⟩, kx⟩ _ Hv H ?_
  have hat : ∀ k v, us[k]? = some v → (L2.start N (V.ref p :: us))[1 + k]? = some (some v) := fun k v hk => by
    have hk' := (List.getElem?_eq_some_iff.mp hk).1
    unfold L2.start
    rw [List.getElem?_append_left (by simp; omega), Nat.add_comm, List.getElem?_map, List.getElem?_cons_succ, hk]
    rfl
  have h0 : (L2.start N (V.ref p :: us))[0]? = some (some (.ref p)) := rfl
  refine ⟨?_, vis, fun _ _ _ e => e, fun _ n => n, Same.refl _, fun _ _ _ z => z, fun i e m => ?_, fun i e l m c s => ?_, fun i j e f l m m' c c' n s s' => ?_⟩
  · unfold L2.start
    rw [List.length_append, List.length_map, List.length_replicate, List.length_cons]
    show us.length + 1 + (N.length - (us.length + 1)) = N.length
    omega
  · rcases List.mem_cons.mp m with q | m
    · cases q
      exact ⟨[], h0, hp, hv, .nil⟩
    · exact argC_at (i := 1) (as := [⟨τ1, x1⟩, ⟨τ2, x2⟩]) rs hat i e m
  · rcases List.mem_cons.mp m with q | m
    · cases q
      rw [h0] at s
      cases s
      exact .inr rfl
    · rw [(argC_ge (as := [⟨τ1, x1⟩, ⟨τ2, x2⟩]) (i := 1) m).2] at c
      cases c
  · rcases List.mem_cons.mp m with q | m
    · rcases List.mem_cons.mp m' with q' | m'
      · cases q
        cases q'
        exact n rfl
      · rw [(argC_ge (as := [⟨τ1, x1⟩, ⟨τ2, x2⟩]) (i := 1) m').2] at c'
        cases c'
    · rw [(argC_ge (as := [⟨τ1, x1⟩, ⟨τ2, x2⟩]) (i := 1) m).2] at c
      cases c
theorem smx_make2 {α1 : Type} {α2 : Type} {τ1 : Ty α1} {τ2 : Ty α2} {pre : α1 → α2 → Prop} {f : α1 → α2 → Except Exn δ} {x1 : α1} {x2 : α2} {t : TA} (ha : SmA B Γ t [⟨τ1, x1⟩, ⟨τ2, x2⟩]) (hp : pre x1 x2) : SmX L B Γ (tMakeS C (spIX2 L τ1 τ2 pre C sch f) [] (WE W) t) (tObj C sch) (f x1 x2) W := fun σ Hv H w Q k kx =>
  ha σ Hv H w _ fun us Hv1 H1 g1 rs => fun x dx hx hdx ndx => by
    show spIX2 L τ1 τ2 pre C sch f (V.ref x :: (us ++ [])) _ _ (WE W σ)
    rw [List.append_nil]
    have vx := Same.free g1.vis hx
    have s0 : Same H1 (upd (upd H1 dx (.own x)) x (.ins C dx [])) := fun b o e => by
      rw [upd_ne (ne_of_none e hx), upd_ne (ne_of_none e hdx)]
      exact e
    refine ⟨x1, x2, x, dx, us, Hv1, rfl, upd_same, vx, Same.trans g1.vis s0, rs, hp, fun y q Hv' H' fs h1 h2 h3 h4 h5 h6 h7 => ⟨rfl, ?_⟩, fun e q cls d Hv' H' h1 h2 h3 h4 hx' => kx e q cls d Hv' H' (g1.trans ⟨fun b o e => h1 b o (ne_of_none e hx) (s0 _ _ e), h2, h3, fun b n z => h4 b (fun q => n (by rw [q]; exact hx)) (Same.some_ne s0 n) z⟩) hx'⟩
    have s1 := same_upd (o := .ins C dx fs) h6
    refine k y q (.ref x) (upd Hv' x (.ins C dx fs)) H' (g1.trans ⟨fun b o e => h1 b o (ne_of_none e hx) (s0 _ _ e), Same.trans h2 s1, fun b o e => ?_, fun b n z => ?_⟩) ⟨x, dx, fs, rfl, upd_same, h7.up s1⟩
    · by_cases hb : b = x
      · subst hb
        rw [upd_same] at e
        cases e
        exact h5
      · rw [upd_ne hb] at e
        exact h3 _ _ e
    · have hb : b ≠ x := fun q => n (by rw [q]; exact hx)
      rw [upd_ne hb]
      exact h4 b hb (Same.some_ne s0 n) z
def spIX3 {α1 : Type} {α2 : Type} {α3 : Type} (L : ExTab) (τ1 : Ty α1) (τ2 : Ty α2) (τ3 : Ty α3) (pre : α1 → α2 → α3 → Prop) (C : Addr) (sch : δ → List (Str × As)) (f : α1 → α2 → α3 → Except Exn δ) : Sp := fun vs H Q E => ∃ (x1 : α1) (x2 : α2) (x3 : α3), ∃ (p dx : Addr) (us : List V) (Hv : Hp), vs = .ref p :: us ∧ H p = some (.ins C dx []) ∧ Hv p = none ∧ Same Hv H ∧ Reps Hv us [⟨τ1, x1⟩, ⟨τ2, x2⟩, ⟨τ3, x3⟩] ∧ pre x1 x2 x3 ∧ (∀ y, f x1 x2 x3 = .ok y → ∀ Hv' H' fs, (∀ b o, b ≠ p → H b = some o → H' b = some o) → Same Hv Hv' → Same Hv' H' → (∀ b, b ≠ p → H b ≠ none → Hv b = none → Hv' b = none) → H' p = some (.ins C dx fs) → Hv' p = none → FsRep Hv' fs (sch y) → Q .non H') ∧ ∀ e, f x1 x2 x3 = .error e → ∀ cls d Hv' H', (∀ b o, b ≠ p → H b = some o → H' b = some o) → Same Hv Hv' → Same Hv' H' → (∀ b, b ≠ p → H b ≠ none → Hv b = none → Hv' b = none) → ExAt L Hv' e cls d → E cls d H'
theorem spIX3_len {α1 : Type} {α2 : Type} {α3 : Type} {τ1 : Ty α1} {τ2 : Ty α2} {τ3 : Ty α3} {pre : α1 → α2 → α3 → Prop} {f : α1 → α2 → α3 → Except Exn δ} (h : spIX3 L τ1 τ2 τ3 pre C sch f vs H Q E) : vs.length = 4 := by
  obtain ⟨_, _, _, _, _, us, _, rfl, _, _, _, r, _⟩ := h
  exact congrArg (· + 1) r.len
theorem spIX3_body {α1 : Type} {α2 : Type} {α3 : Type} {τ1 : Ty α1} {τ2 : Ty α2} {τ3 : Ty α3} {pre : α1 → α2 → α3 → Prop} {f : α1 → α2 → α3 → Except Exn δ} {N : List Str} {t : TS} (hl : 4 ≤ N.length) (h : spIX3 L τ1 τ2 τ3 pre C sch f vs H Q E) (hb : ∀ B0 : Bs, B0.n = N.length → ∀ p dx, ∀ (x1 : α1) (x2 : α2) (x3 : α3), pre x1 x2 x3 → RtIX L B0 p dx C sch (f x1 x2 x3) Q E → G B0 t [(0, .ob p dx C []), (1, .fz τ1 x1), (2, .fz τ2 x2), (3, .fz τ3 x3)] { nx := fun _ H' => Q .non H', rt := Q }) : t { nx := fun _ H' => Q .non H', rt := Q } (L2.start N vs) H := by
  obtain ⟨x1, x2, x3, p, dx, us, Hv, rfl, hp, hv, vis, rs, pr, k, kx⟩ := h
  have hlen : us.length = 3 := rs.len
  refine hb ⟨H, Hv, (· = p), N.length⟩ rfl p dx x1 x2 x3 pr ⟨fun _ z => z, fun y q => ⟨fun _ z => z, fun Hv' H' fs h1 h2 h3 h4 h5 h6 h7 => k y q Hv' H' fs h1 h2 h3 h4 h5 h6 h7⟩, kx⟩ _ Hv H ?_
  have hat : ∀ k v, us[k]? = some v → (L2.start N (V.ref p :: us))[1 + k]? = some (some v) := fun k v hk => by
    have hk' := (List.getElem?_eq_some_iff.mp hk).1
    unfold L2.start
    rw [List.getElem?_append_left (by simp; omega), Nat.add_comm, List.getElem?_map, List.getElem?_cons_succ, hk]
    rfl
  have h0 : (L2.start N (V.ref p :: us))[0]? = some (some (.ref p)) := rfl
  refine ⟨?_, vis, fun _ _ _ e => e, fun _ n => n, Same.refl _, fun _ _ _ z => z, fun i e m => ?_, fun i e l m c s => ?_, fun i j e f l m m' c c' n s s' => ?_⟩
  · unfold L2.start
    rw [List.length_append, List.length_map, List.length_replicate, List.length_cons]
    show us.length + 1 + (N.length - (us.length + 1)) = N.length
    omega
  · rcases List.mem_cons.mp m with q | m
    · cases q
      exact ⟨[], h0, hp, hv, .nil⟩
    · exact argC_at (i := 1) (as := [⟨τ1, x1⟩, ⟨τ2, x2⟩, ⟨τ3, x3⟩]) rs hat i e m
  · rcases List.mem_cons.mp m with q | m
    · cases q
      rw [h0] at s
      cases s
      exact .inr rfl
    · rw [(argC_ge (as := [⟨τ1, x1⟩, ⟨τ2, x2⟩, ⟨τ3, x3⟩]) (i := 1) m).2] at c
      cases c
  · rcases List.mem_cons.mp m with q | m
    · rcases List.mem_cons.mp m' with q' | m'
      · cases q
        cases q'
        exact n rfl
      · rw [(argC_ge (as := [⟨τ1, x1⟩, ⟨τ2, x2⟩, ⟨τ3, x3⟩]) (i := 1) m').2] at c'
        cases c'
    · rw [(argC_ge (as := [⟨τ1, x1⟩, ⟨τ2, x2⟩, ⟨τ3, x3⟩]) (i := 1) m).2] at c
      cases c
theorem smx_make3 {α1 : Type} {α2 : Type} {α3 : Type} {τ1 : Ty α1} {τ2 : Ty α2} {τ3 : Ty α3} {pre : α1 → α2 → α3 → Prop} {f : α1 → α2 → α3 → Except Exn δ} {x1 : α1} {x2 : α2} {x3 : α3} {t : TA} (ha : SmA B Γ t [⟨τ1, x1⟩, ⟨τ2, x2⟩, ⟨τ3, x3⟩]) (hp : pre x1 x2 x3) : SmX L B Γ (tMakeS C (spIX3 L τ1 τ2 τ3 pre C sch f) [] (WE W) t) (tObj C sch) (f x1 x2 x3) W := fun σ Hv H w Q k kx =>
  ha σ Hv H w _ fun us Hv1 H1 g1 rs => fun x dx hx hdx ndx => by
    show spIX3 L τ1 τ2 τ3 pre C sch f (V.ref x :: (us ++ [])) _ _ (WE W σ)
    rw [List.append_nil]
    have vx := Same.free g1.vis hx
    have s0 : Same H1 (upd (upd H1 dx (.own x)) x (.ins C dx [])) := fun b o e => by
      rw [upd_ne (ne_of_none e hx), upd_ne (ne_of_none e hdx)]
      exact e
    refine ⟨x1, x2, x3, x, dx, us, Hv1, rfl, upd_same, vx, Same.trans g1.vis s0, rs, hp, fun y q Hv' H' fs h1 h2 h3 h4 h5 h6 h7 => ⟨rfl, ?_⟩, fun e q cls d Hv' H' h1 h2 h3 h4 hx' => kx e q cls d Hv' H' (g1.trans ⟨fun b o e => h1 b o (ne_of_none e hx) (s0 _ _ e), h2, h3, fun b n z => h4 b (fun q => n (by rw [q]; exact hx)) (Same.some_ne s0 n) z⟩) hx'⟩
    have s1 := same_upd (o := .ins C dx fs) h6
    refine k y q (.ref x) (upd Hv' x (.ins C dx fs)) H' (g1.trans ⟨fun b o e => h1 b o (ne_of_none e hx) (s0 _ _ e), Same.trans h2 s1, fun b o e => ?_, fun b n z => ?_⟩) ⟨x, dx, fs, rfl, upd_same, h7.up s1⟩
    · by_cases hb : b = x
      · subst hb
        rw [upd_same] at e
        cases e
        exact h5
      · rw [upd_ne hb] at e
        exact h3 _ _ e
    · have hb : b ≠ x := fun q => n (by rw [q]; exact hx)
      rw [upd_ne hb]
      exact h4 b hb (Same.some_ne s0 n) z
def spIX4 {α1 : Type} {α2 : Type} {α3 : Type} {α4 : Type} (L : ExTab) (τ1 : Ty α1) (τ2 : Ty α2) (τ3 : Ty α3) (τ4 : Ty α4) (pre : α1 → α2 → α3 → α4 → Prop) (C : Addr) (sch : δ → List (Str × As)) (f : α1 → α2 → α3 → α4 → Except Exn δ) : Sp := fun vs H Q E => ∃ (x1 : α1) (x2 : α2) (x3 : α3) (x4 : α4), ∃ (p dx : Addr) (us : List V) (Hv : Hp), vs = .ref p :: us ∧ H p = some (.ins C dx []) ∧ Hv p = none ∧ Same Hv H ∧ Reps Hv us [⟨τ1, x1⟩, ⟨τ2, x2⟩, ⟨τ3, x3⟩, ⟨τ4, x4⟩] ∧ pre x1 x2 x3 x4 ∧ (∀ y, f x1 x2 x3 x4 = .ok y → ∀ Hv' H' fs, (∀ b o, b ≠ p → H b = some o → H' b = some o) → Same Hv Hv' → Same Hv' H' → (∀ b, b ≠ p → H b ≠ none → Hv b = none → Hv' b = none) → H' p = some (.ins C dx fs) → Hv' p = none → FsRep Hv' fs (sch y) → Q .non H') ∧ ∀ e, f x1 x2 x3 x4 = .error e → ∀ cls d Hv' H', (∀ b o, b ≠ p → H b = some o → H' b = some o) → Same Hv Hv' → Same Hv' H' → (∀ b, b ≠ p → H b ≠ none → Hv b = none → Hv' b = none) → ExAt L Hv' e cls d → E cls d H'
theorem spIX4_len {α1 : Type} {α2 : Type} {α3 : Type} {α4 : Type} {τ1 : Ty α1} {τ2 : Ty α2} {τ3 : Ty α3} {τ4 : Ty α4} {pre : α1 → α2 → α3 → α4 → Prop} {f : α1 → α2 → α3 → α4 → Except Exn δ} (h : spIX4 L τ1 τ2 τ3 τ4 pre C sch f vs H Q E) : vs.length = 5 := by
  obtain ⟨_, _, _, _, _, _, us, _, rfl, _, _, _, r, _⟩ := h
  exact congrArg (· + 1) r.len
theorem spIX4_body {α1 : Type} {α2 : Type} {α3 : Type} {α4 : Type} {τ1 : Ty α1} {τ2 : Ty α2} {τ3 : Ty α3} {τ4 : Ty α4} {pre : α1 → α2 → α3 → α4 → Prop} {f : α1 → α2 → α3 → α4 → Except Exn δ} {N : List Str} {t : TS} (hl : 5 ≤ N.length) (h : spIX4 L τ1 τ2 τ3 τ4 pre C sch f vs H Q E) (hb : ∀ B0 : Bs, B0.n = N.length → ∀ p dx, ∀ (x1 : α1) (x2 : α2) (x3 : α3) (x4 : α4), pre x1 x2 x3 x4 → RtIX L B0 p dx C sch (f x1 x2 x3 x4) Q E → G B0 t [(0, .ob p dx C []), (1, .fz τ1 x1), (2, .fz τ2 x2), (3, .fz τ3 x3), (4, .fz τ4 x4)] { nx := fun _ H' => Q .non H', rt := Q }) : t { nx := fun _ H' => Q .non H', rt := Q } (L2.start N vs) H := by
  obtain ⟨x1, x2, x3, x4, p, dx, us, Hv, rfl, hp, hv, vis, rs, pr, k, kx⟩ := h
  have hlen : us.length = 4 := rs.len
  refine hb ⟨H, Hv, (· = p), N.length⟩ rfl p dx x1 x2 x3 x4 pr ⟨fun _ z => z, fun y q => ⟨fun _ z => z, fun Hv' H' fs h1 h2 h3 h4 h5 h6 h7 => k y q Hv' H' fs h1 h2 h3 h4 h5 h6 h7⟩, kx⟩ _ Hv H ?_
  have hat : ∀ k v, us[k]? = some v → (L2.start N (V.ref p :: us))[1 + k]? = some (some v) := fun k v hk => by
    have hk' := (List.getElem?_eq_some_iff.mp hk).1
    unfold L2.start
    rw [List.getElem?_append_left (by simp; omega), Nat.add_comm, List.getElem?_map, List.getElem?_cons_succ, hk]
    rfl
  have h0 : (L2.start N (V.ref p :: us))[0]? = some (some (.ref p)) := rfl
  refine ⟨?_, vis, fun _ _ _ e => e, fun _ n => n, Same.refl _, fun _ _ _ z => z, fun i e m => ?_, fun i e l m c s => ?_, fun i j e f l m m' c c' n s s' => ?_⟩
  · unfold L2.start
    rw [List.length_append, List.length_map, List.length_replicate, List.length_cons]
    show us.length + 1 + (N.length - (us.length + 1)) = N.length
    omega
  · rcases List.mem_cons.mp m with q | m
    · cases q
      exact ⟨[], h0, hp, hv, .nil⟩
    · exact argC_at (i := 1) (as := [⟨τ1, x1⟩, ⟨τ2, x2⟩, ⟨τ3, x3⟩, ⟨τ4, x4⟩]) rs hat i e m
  · rcases List.mem_cons.mp m with q | m
    · cases q
      rw [h0] at s
      cases s
      exact .inr rfl
    · rw [(argC_ge (as := [⟨τ1, x1⟩, ⟨τ2, x2⟩, ⟨τ3, x3⟩, ⟨τ4, x4⟩]) (i := 1) m).2] at c
      cases c
  · rcases List.mem_cons.mp m with q | m
    · rcases List.mem_cons.mp m' with q' | m'
      · cases q
        cases q'
        exact n rfl
      · rw [(argC_ge (as := [⟨τ1, x1⟩, ⟨τ2, x2⟩, ⟨τ3, x3⟩, ⟨τ4, x4⟩]) (i := 1) m').2] at c'
        cases c'
    · rw [(argC_ge (as := [⟨τ1, x1⟩, ⟨τ2, x2⟩, ⟨τ3, x3⟩, ⟨τ4, x4⟩]) (i := 1) m).2] at c
      cases c
theorem smx_make4 {α1 : Type} {α2 : Type} {α3 : Type} {α4 : Type} {τ1 : Ty α1} {τ2 : Ty α2} {τ3 : Ty α3} {τ4 : Ty α4} {pre : α1 → α2 → α3 → α4 → Prop} {f : α1 → α2 → α3 → α4 → Except Exn δ} {x1 : α1} {x2 : α2} {x3 : α3} {x4 : α4} {t : TA} (ha : SmA B Γ t [⟨τ1, x1⟩, ⟨τ2, x2⟩, ⟨τ3, x3⟩, ⟨τ4, x4⟩]) (hp : pre x1 x2 x3 x4) : SmX L B Γ (tMakeS C (spIX4 L τ1 τ2 τ3 τ4 pre C sch f) [] (WE W) t) (tObj C sch) (f x1 x2 x3 x4) W := fun σ Hv H w Q k kx =>
  ha σ Hv H w _ fun us Hv1 H1 g1 rs => fun x dx hx hdx ndx => by
    show spIX4 L τ1 τ2 τ3 τ4 pre C sch f (V.ref x :: (us ++ [])) _ _ (WE W σ)
    rw [List.append_nil]
    have vx := Same.free g1.vis hx
    have s0 : Same H1 (upd (upd H1 dx (.own x)) x (.ins C dx [])) := fun b o e => by
      rw [upd_ne (ne_of_none e hx), upd_ne (ne_of_none e hdx)]
      exact e
    refine ⟨x1, x2, x3, x4, x, dx, us, Hv1, rfl, upd_same, vx, Same.trans g1.vis s0, rs, hp, fun y q Hv' H' fs h1 h2 h3 h4 h5 h6 h7 => ⟨rfl, ?_⟩, fun e q cls d Hv' H' h1 h2 h3 h4 hx' => kx e q cls d Hv' H' (g1.trans ⟨fun b o e => h1 b o (ne_of_none e hx) (s0 _ _ e), h2, h3, fun b n z => h4 b (fun q => n (by rw [q]; exact hx)) (Same.some_ne s0 n) z⟩) hx'⟩
    have s1 := same_upd (o := .ins C dx fs) h6
    refine k y q (.ref x) (upd Hv' x (.ins C dx fs)) H' (g1.trans ⟨fun b o e => h1 b o (ne_of_none e hx) (s0 _ _ e), Same.trans h2 s1, fun b o e => ?_, fun b n z => ?_⟩) ⟨x, dx, fs, rfl, upd_same, h7.up s1⟩
    · by_cases hb : b = x
      · subst hb
        rw [upd_same] at e
        cases e
        exact h5
      · rw [upd_ne hb] at e
        exact h3 _ _ e
    · have hb : b ≠ x := fun q => n (by rw [q]; exact hx)
      rw [upd_ne hb]
      exact h4 b hb (Same.some_ne s0 n) z
def spIX5 {α1 : Type} {α2 : Type} {α3 : Type} {α4 : Type} {α5 : Type} (L : ExTab) (τ1 : Ty α1) (τ2 : Ty α2) (τ3 : Ty α3) (τ4 : Ty α4) (τ5 : Ty α5) (pre : α1 → α2 → α3 → α4 → α5 → Prop) (C : Addr) (sch : δ → List (Str × As)) (f : α1 → α2 → α3 → α4 → α5 → Except Exn δ) : Sp := fun vs H Q E => ∃ (x1 : α1) (x2 : α2) (x3 : α3) (x4 : α4) (x5 : α5), ∃ (p dx : Addr) (us : List V) (Hv : Hp), vs = .ref p :: us ∧ H p = some (.ins C dx []) ∧ Hv p = none ∧ Same Hv H ∧ Reps Hv us [⟨τ1, x1⟩, ⟨τ2, x2⟩, ⟨τ3, x3⟩, ⟨τ4, x4⟩, ⟨τ5, x5⟩] ∧ pre x1 x2 x3 x4 x5 ∧ (∀ y, f x1 x2 x3 x4 x5 = .ok y → ∀ Hv' H' fs, (∀ b o, b ≠ p → H b = some o → H' b = some o) → Same Hv Hv' → Same Hv' H' → (∀ b, b ≠ p → H b ≠ none → Hv b = none → Hv' b = none) → H' p = some (.ins C dx fs) → Hv' p = none → FsRep Hv' fs (sch y) → Q .non H') ∧ ∀ e, f x1 x2 x3 x4 x5 = .error e → ∀ cls d Hv' H', (∀ b o, b ≠ p → H b = some o → H' b = some o) → Same Hv Hv' → Same Hv' H' → (∀ b, b ≠ p → H b ≠ none → Hv b = none → Hv' b = none) → ExAt L Hv' e cls d → E cls d H'
theorem spIX5_len {α1 : Type} {α2 : Type} {α3 : Type} {α4 : Type} {α5 : Type} {τ1 : Ty α1} {τ2 : Ty α2} {τ3 : Ty α3} {τ4 : Ty α4} {τ5 : Ty α5} {pre : α1 → α2 → α3 → α4 → α5 → Prop} {f : α1 → α2 → α3 → α4 → α5 → Except Exn δ} (h : spIX5 L τ1 τ2 τ3 τ4 τ5 pre C sch f vs H Q E) : vs.length = 6 := by
  obtain ⟨_, _, _, _, _, _, _, us, _, rfl, _, _, _, r, _⟩ := h
  exact congrArg (· + 1) r.len
theorem spIX5_body {α1 : Type} {α2 : Type} {α3 : Type} {α4 : Type} {α5 : Type} {τ1 : Ty α1} {τ2 : Ty α2} {τ3 : Ty α3} {τ4 : Ty α4} {τ5 : Ty α5} {pre : α1 → α2 → α3 → α4 → α5 → Prop} {f : α1 → α2 → α3 → α4 → α5 → Except Exn δ} {N : List Str} {t : TS} (hl : 6 ≤ N.length) (h : spIX5 L τ1 τ2 τ3 τ4 τ5 pre C sch f vs H Q E) (hb : ∀ B0 : Bs, B0.n = N.length → ∀ p dx, ∀ (x1 : α1) (x2 : α2) (x3 : α3) (x4 : α4) (x5 : α5), pre x1 x2 x3 x4 x5 → RtIX L B0 p dx C sch (f x1 x2 x3 x4 x5) Q E → G B0 t [(0, .ob p dx C []), (1, .fz τ1 x1), (2, .fz τ2 x2), (3, .fz τ3 x3), (4, .fz τ4 x4), (5, .fz τ5 x5)] { nx := fun _ H' => Q .non H', rt := Q }) : t { nx := fun _ H' => Q .non H', rt := Q } (L2.start N vs) H := by
  obtain ⟨x1, x2, x3, x4, x5, p, dx, us, Hv, rfl, hp, hv, vis, rs, pr, k, kx⟩ := h
  have hlen : us.length = 5 := rs.len
  refine hb ⟨H, Hv, (· = p), N.length⟩ rfl p dx x1 x2 x3 x4 x5 pr ⟨fun _ z => z, fun y q => ⟨fun _ z => z, fun Hv' H' fs h1 h2 h3 h4 h5 h6 h7 => k y q Hv' H' fs h1 h2 h3 h4 h5 h6 h7⟩, kx⟩ _ Hv H ?_
  have hat : ∀ k v, us[k]? = some v → (L2.start N (V.ref p :: us))[1 + k]? = some (some v) := fun k v hk => by
    have hk' := (List.getElem?_eq_some_iff.mp hk).1
    unfold L2.start
    rw [List.getElem?_append_left (by simp; omega), Nat.add_comm, List.getElem?_map, List.getElem?_cons_succ, hk]
    rfl
  have h0 : (L2.start N (V.ref p :: us))[0]? = some (some (.ref p)) := rfl
  refine ⟨?_, vis, fun _ _ _ e => e, fun _ n => n, Same.refl _, fun _ _ _ z => z, fun i e m => ?_, fun i e l m c s => ?_, fun i j e f l m m' c c' n s s' => ?_⟩
  · unfold L2.start
    rw [List.length_append, List.length_map, List.length_replicate, List.length_cons]
    show us.length + 1 + (N.length - (us.length + 1)) = N.length
    omega
  · rcases List.mem_cons.mp m with q | m
    · cases q
      exact ⟨[], h0, hp, hv, .nil⟩
    · exact argC_at (i := 1) (as := [⟨τ1, x1⟩, ⟨τ2, x2⟩, ⟨τ3, x3⟩, ⟨τ4, x4⟩, ⟨τ5, x5⟩]) rs hat i e m
  · rcases List.mem_cons.mp m with q | m
    · cases q
      rw [h0] at s
      cases s
      exact .inr rfl
    · rw [(argC_ge (as := [⟨τ1, x1⟩, ⟨τ2, x2⟩, ⟨τ3, x3⟩, ⟨τ4, x4⟩, ⟨τ5, x5⟩]) (i := 1) m).2] at c
      cases c
  · rcases List.mem_cons.mp m with q | m
    · rcases List.mem_cons.mp m' with q' | m'
      · cases q
        cases q'
        exact n rfl
      · rw [(argC_ge (as := [⟨τ1, x1⟩, ⟨τ2, x2⟩, ⟨τ3, x3⟩, ⟨τ4, x4⟩, ⟨τ5, x5⟩]) (i := 1) m').2] at c'
        cases c'
    · rw [(argC_ge (as := [⟨τ1, x1⟩, ⟨τ2, x2⟩, ⟨τ3, x3⟩, ⟨τ4, x4⟩, ⟨τ5, x5⟩]) (i := 1) m).2] at c
      cases c
theorem smx_make5 {α1 : Type} {α2 : Type} {α3 : Type} {α4 : Type} {α5 : Type} {τ1 : Ty α1} {τ2 : Ty α2} {τ3 : Ty α3} {τ4 : Ty α4} {τ5 : Ty α5} {pre : α1 → α2 → α3 → α4 → α5 → Prop} {f : α1 → α2 → α3 → α4 → α5 → Except Exn δ} {x1 : α1} {x2 : α2} {x3 : α3} {x4 : α4} {x5 : α5} {t : TA} (ha : SmA B Γ t [⟨τ1, x1⟩, ⟨τ2, x2⟩, ⟨τ3, x3⟩, ⟨τ4, x4⟩, ⟨τ5, x5⟩]) (hp : pre x1 x2 x3 x4 x5) : SmX L B Γ (tMakeS C (spIX5 L τ1 τ2 τ3 τ4 τ5 pre C sch f) [] (WE W) t) (tObj C sch) (f x1 x2 x3 x4 x5) W := fun σ Hv H w Q k kx =>
  ha σ Hv H w _ fun us Hv1 H1 g1 rs => fun x dx hx hdx ndx => by
    show spIX5 L τ1 τ2 τ3 τ4 τ5 pre C sch f (V.ref x :: (us ++ [])) _ _ (WE W σ)
    rw [List.append_nil]
    have vx := Same.free g1.vis hx
    have s0 : Same H1 (upd (upd H1 dx (.own x)) x (.ins C dx [])) := fun b o e => by
      rw [upd_ne (ne_of_none e hx), upd_ne (ne_of_none e hdx)]
      exact e
    refine ⟨x1, x2, x3, x4, x5, x, dx, us, Hv1, rfl, upd_same, vx, Same.trans g1.vis s0, rs, hp, fun y q Hv' H' fs h1 h2 h3 h4 h5 h6 h7 => ⟨rfl, ?_⟩, fun e q cls d Hv' H' h1 h2 h3 h4 hx' => kx e q cls d Hv' H' (g1.trans ⟨fun b o e => h1 b o (ne_of_none e hx) (s0 _ _ e), h2, h3, fun b n z => h4 b (fun q => n (by rw [q]; exact hx)) (Same.some_ne s0 n) z⟩) hx'⟩
    have s1 := same_upd (o := .ins C dx fs) h6
    refine k y q (.ref x) (upd Hv' x (.ins C dx fs)) H' (g1.trans ⟨fun b o e => h1 b o (ne_of_none e hx) (s0 _ _ e), Same.trans h2 s1, fun b o e => ?_, fun b n z => ?_⟩) ⟨x, dx, fs, rfl, upd_same, h7.up s1⟩
    · by_cases hb : b = x
      · subst hb
        rw [upd_same] at e
        cases e
        exact h5
      · rw [upd_ne hb] at e
        exact h3 _ _ e
    · have hb : b ≠ x := fun q => n (by rw [q]; exact hx)
      rw [upd_ne hb]
      exact h4 b hb (Same.some_ne s0 n) z
end
end VC

set_option Elab.async false
set_option maxRecDepth 100000
/-! MF: the small field, in plain numbers. -/
namespace MF

def wd (R : Nat) : Nat := Nat.log2 R
def last (R : Nat) : Nat := 2 ^ wd R - 1
/-- a symbol doubled -/
def dbl (R x : Nat) : Nat := if 2 * x < 2 ^ wd R then 2 * x else (2 * x) ^^^ R
def dp (R : Nat) : Nat → Nat → Nat
  | 0, x => x
  | k + 1, x => dbl R (dp R k x)
def pw (R k : Nat) : Nat := dp R k 1
/-- the product by doubling -/
def pd (R : Nat) : Nat → Nat → Nat → Nat
  | 0, _, _ => 0
  | n + 1, x, y => (if y % 2 = 1 then x else 0) ^^^ pd R n (dbl R x) (y / 2)

theorem xor_cancel (a b : Nat) : a ^^^ b ^^^ b = a := by rw [Nat.xor_assoc, Nat.xor_self, Nat.xor_zero]
theorem xor_left (a b c : Nat) : a ^^^ (b ^^^ c) = b ^^^ (a ^^^ c) := by rw [← Nat.xor_assoc, Nat.xor_comm a b, Nat.xor_assoc]
theorem xor4 (a b c d : Nat) : (a ^^^ b) ^^^ (c ^^^ d) = (a ^^^ c) ^^^ (b ^^^ d) := by
  rw [Nat.xor_assoc, Nat.xor_assoc, xor_left b c d]
theorem xor_eq_zero {a b : Nat} (h : a ^^^ b = 0) : a = b := by
  have := congrArg (· ^^^ b) h
  simp only [xor_cancel, Nat.zero_xor] at this
  exact this
theorem xor_lt {a b w : Nat} (ha : a < 2 ^ w) (hb : b < 2 ^ w) : a ^^^ b < 2 ^ w := Nat.xor_lt_two_pow ha hb
theorem xor_mod2 (a b : Nat) : (a ^^^ b) % 2 = (a % 2 + b % 2) % 2 := by
  have h := Nat.xor_mod_two_eq_one (a := a) (b := b)
  have h1 := Nat.mod_two_eq_zero_or_one (a ^^^ b)
  have h2 := Nat.mod_two_eq_zero_or_one a
  have h3 := Nat.mod_two_eq_zero_or_one b
  rcases h1 with h1 | h1 <;> rcases h2 with h2 | h2 <;> rcases h3 with h3 | h3 <;> simp [h1, h2, h3] at h ⊢
theorem xor_div2 (a b : Nat) : (a ^^^ b) / 2 = a / 2 ^^^ b / 2 := Nat.xor_div_two
theorem xor_mul2 (a b : Nat) : 2 * (a ^^^ b) = 2 * a ^^^ 2 * b := by
  have := Nat.shiftLeft_xor_distrib (a := a) (b := b) (i := 1)
  simp only [Nat.shiftLeft_eq, Nat.pow_one] at this
  rw [Nat.mul_comm 2, Nat.mul_comm 2, Nat.mul_comm 2]
  exact this

theorem lt_of_bit {x w : Nat} (h : x < 2 ^ (w + 1)) (hb : x.testBit w = false) : x < 2 ^ w := by
  refine Nat.lt_pow_two_of_testBit x fun i hi => ?_
  by_cases e : i = w
  · rw [e]; exact hb
  · exact Nat.testBit_lt_two_pow (Nat.lt_of_lt_of_le h (Nat.pow_le_pow_right (by omega) (by omega)))
theorem bit_of {x w : Nat} (h1 : 2 ^ w ≤ x) (h2 : x < 2 ^ (w + 1)) : x.testBit w = true := by
  cases e : x.testBit w with
  | true => rfl
  | false => exact absurd (lt_of_bit h2 e) (by omega)
theorem two_q_xor (q : Nat) : 2 * q ^^^ 1 = 2 * q + 1 := by
  have h1 := xor_mod2 (2 * q) 1
  have h2 := xor_div2 (2 * q) 1
  have e : (1 : Nat) / 2 = 0 := rfl
  rw [e, Nat.xor_zero] at h2
  omega

structure Good (R : Nat) : Prop where
  lo : 16 ≤ R
  hi : R < 512
  odd : R % 2 = 1
  back : pw R (last R) = 1
  first : ∀ k, 0 < k → k < last R → pw R k ≠ 1
structure Rng (R : Nat) : Prop where
  lo : 16 ≤ R
  hi : R < 512
  odd : R % 2 = 1
theorem Good.rng {R : Nat} (g : Good R) : Rng R := ⟨g.lo, g.hi, g.odd⟩
section
variable {R : Nat}
theorem Rng.le (g : Rng R) : 2 ^ wd R ≤ R := Nat.log2_self_le (by have := g.lo; omega)
theorem Rng.lt (g : Rng R) : R < 2 ^ (wd R + 1) := Nat.lt_log2_self
theorem Rng.w4 (g : Rng R) : 4 ≤ wd R := (Nat.le_log2 (by have := g.lo; omega)).mpr g.lo
theorem Rng.w8 (g : Rng R) : wd R ≤ 8 := by
  have := (Nat.log2_lt (n := R) (k := 9) (by have := g.lo; omega)).mpr g.hi
  unfold wd; omega
theorem Rng.p16 (g : Rng R) : 16 ≤ 2 ^ wd R := Nat.le_trans (by decide : 16 ≤ 2 ^ 4) (Nat.pow_le_pow_right (by omega) g.w4)
theorem Rng.p256 (g : Rng R) : 2 ^ wd R ≤ 256 := Nat.le_trans (Nat.pow_le_pow_right (by omega) g.w8) (by decide : 2 ^ 8 ≤ 256)
theorem last1 (g : Rng R) : last R + 1 = 2 ^ wd R := by have := g.p16; unfold last; omega
theorem Rng.l15 (g : Rng R) : 15 ≤ last R := by have := g.p16; unfold last; omega
theorem Rng.l255 (g : Rng R) : last R ≤ 255 := by have := g.p256; unfold last; omega
theorem pow_s (w : Nat) : 2 ^ (w + 1) = 2 * 2 ^ w := by rw [Nat.pow_succ, Nat.mul_comm]
/-- the doubling by the top bit -/
theorem dbl_eq {x : Nat} (hx : x < 2 ^ wd R) : dbl R x = 2 * x ^^^ (if (2 * x).testBit (wd R) then R else 0) := by
  have hs := pow_s (wd R)
  unfold dbl
  by_cases h : 2 * x < 2 ^ wd R
  · rw [if_pos h, if_neg (by rw [Nat.testBit_lt_two_pow h]; simp), Nat.xor_zero]
  · rw [if_neg h, if_pos (bit_of (by omega) (by omega))]
theorem dbl_lt (g : Rng R) {x : Nat} (hx : x < 2 ^ wd R) : dbl R x < 2 ^ wd R := by
  have hs := pow_s (wd R)
  rw [dbl_eq hx]
  refine lt_of_bit ?_ ?_
  · refine xor_lt (by omega) ?_
    split
    · exact g.lt
    · exact Nat.two_pow_pos _
  · rw [Nat.testBit_xor]
    cases e : (2 * x).testBit (wd R) with
    | true => simp [bit_of g.le g.lt]
    | false => simp
theorem dbl_add (g : Rng R) {x y : Nat} (hx : x < 2 ^ wd R) (hy : y < 2 ^ wd R) : dbl R (x ^^^ y) = dbl R x ^^^ dbl R y := by
  rw [dbl_eq hx, dbl_eq hy, dbl_eq (xor_lt hx hy), xor_mul2, Nat.testBit_xor, xor4]
  congr 1
  cases (2 * x).testBit (wd R) <;> cases (2 * y).testBit (wd R) <;> simp
theorem dbl_zero : dbl R 0 = 0 := by
  unfold dbl
  rw [if_pos (by rw [Nat.mul_zero]; exact Nat.two_pow_pos _)]
theorem dbl_ne (g : Rng R) {x : Nat} (hx : x < 2 ^ wd R) (h : dbl R x = 0) : x = 0 := by
  unfold dbl at h
  split at h
  · omega
  · have e := xor_eq_zero h
    have := g.odd
    omega
theorem dbl_inj (g : Rng R) {x y : Nat} (hx : x < 2 ^ wd R) (hy : y < 2 ^ wd R) (h : dbl R x = dbl R y) : x = y := by
  refine xor_eq_zero (dbl_ne g (xor_lt hx hy) ?_)
  rw [dbl_add g hx hy, h, Nat.xor_self]
theorem dp_lt (g : Rng R) {x : Nat} (hx : x < 2 ^ wd R) : ∀ k, dp R k x < 2 ^ wd R
  | 0 => hx
  | k + 1 => dbl_lt g (dp_lt g hx k)
theorem dp_zero : ∀ k, dp R k 0 = 0
  | 0 => rfl
  | k + 1 => by
    show dbl R (dp R k 0) = 0
    rw [dp_zero k, dbl_zero]
theorem dp_dbl {x : Nat} : ∀ k, dp R k (dbl R x) = dbl R (dp R k x)
  | 0 => rfl
  | k + 1 => congrArg (dbl R) (dp_dbl k)
theorem dp_add' {x : Nat} (j : Nat) : ∀ k, dp R (j + k) x = dp R k (dp R j x)
  | 0 => rfl
  | k + 1 => congrArg (dbl R) (dp_add' j k)
theorem dp_xor (g : Rng R) {x y : Nat} (hx : x < 2 ^ wd R) (hy : y < 2 ^ wd R) : ∀ k, dp R k (x ^^^ y) = dp R k x ^^^ dp R k y
  | 0 => rfl
  | k + 1 => by
    show dbl R (dp R k (x ^^^ y)) = dbl R (dp R k x) ^^^ dbl R (dp R k y)
    rw [dp_xor g hx hy k, dbl_add g (dp_lt g hx k) (dp_lt g hy k)]
theorem dp_inj (g : Rng R) {x y : Nat} (hx : x < 2 ^ wd R) (hy : y < 2 ^ wd R) : ∀ k, dp R k x = dp R k y → x = y
  | 0, h => h
  | k + 1, h => dp_inj g hx hy k (dbl_inj g (dp_lt g hx k) (dp_lt g hy k) h)
theorem one_lt (g : Rng R) : 1 < 2 ^ wd R := by have := g.p16; omega
theorem pw_lt (g : Rng R) (k : Nat) : pw R k < 2 ^ wd R := dp_lt g (one_lt g) k
theorem pw_ne (g : Rng R) : ∀ k, pw R k ≠ 0
  | 0 => fun h => by cases h
  | k + 1 => fun h => pw_ne g k (dbl_ne g (pw_lt g k) h)
theorem pw_add (j k : Nat) : pw R (j + k) = dp R k (pw R j) := dp_add' j k

/-! ### the product by doubling -/
theorem pd_zero : ∀ (n x : Nat), pd R n x 0 = 0
  | 0, _ => rfl
  | n + 1, x => by
    show (if 0 % 2 = 1 then x else 0) ^^^ pd R n (dbl R x) (0 / 2) = 0
    rw [Nat.zero_div, pd_zero n]
    simp
theorem pd_zeroL : ∀ (n y : Nat), pd R n 0 y = 0
  | 0, _ => rfl
  | n + 1, y => by
    show (if y % 2 = 1 then 0 else 0) ^^^ pd R n (dbl R 0) (y / 2) = 0
    rw [dbl_zero, pd_zeroL n]
    simp
theorem pd_addR : ∀ (n x y y' : Nat), pd R n x (y ^^^ y') = pd R n x y ^^^ pd R n x y'
  | 0, _, _, _ => (Nat.xor_self 0).symm
  | n + 1, x, y, y' => by
    show (if (y ^^^ y') % 2 = 1 then x else 0) ^^^ pd R n (dbl R x) ((y ^^^ y') / 2) = ((if y % 2 = 1 then x else 0) ^^^ pd R n (dbl R x) (y / 2)) ^^^ ((if y' % 2 = 1 then x else 0) ^^^ pd R n (dbl R x) (y' / 2))
    rw [xor_div2, pd_addR n, xor4]
    congr 1
    rw [xor_mod2]
    rcases Nat.mod_two_eq_zero_or_one y with h | h <;> rcases Nat.mod_two_eq_zero_or_one y' with h' | h' <;> simp [h, h']
theorem pd_lt (g : Rng R) : ∀ (n : Nat) {x : Nat} (y : Nat), x < 2 ^ wd R → pd R n x y < 2 ^ wd R
  | 0, _, _, _ => Nat.two_pow_pos _
  | n + 1, x, y, hx => by
    show (if y % 2 = 1 then x else 0) ^^^ pd R n (dbl R x) (y / 2) < _
    refine xor_lt ?_ (pd_lt g n _ (dbl_lt g hx))
    split
    · exact hx
    · exact Nat.two_pow_pos _
theorem pd_addL (g : Rng R) : ∀ (n : Nat) {x x' : Nat} (y : Nat), x < 2 ^ wd R → x' < 2 ^ wd R → pd R n (x ^^^ x') y = pd R n x y ^^^ pd R n x' y
  | 0, _, _, _, _, _ => (Nat.xor_self 0).symm
  | n + 1, x, x', y, hx, hx' => by
    show (if y % 2 = 1 then x ^^^ x' else 0) ^^^ pd R n (dbl R (x ^^^ x')) (y / 2) = ((if y % 2 = 1 then x else 0) ^^^ pd R n (dbl R x) (y / 2)) ^^^ ((if y % 2 = 1 then x' else 0) ^^^ pd R n (dbl R x') (y / 2))
    rw [dbl_add g hx hx', pd_addL g n _ (dbl_lt g hx) (dbl_lt g hx'), xor4]
    congr 1
    split <;> simp
theorem pd_dbl (g : Rng R) : ∀ (n : Nat) {x : Nat} (y : Nat), x < 2 ^ wd R → pd R n (dbl R x) y = dbl R (pd R n x y)
  | 0, _, _, _ => dbl_zero.symm
  | n + 1, x, y, hx => by
    show (if y % 2 = 1 then dbl R x else 0) ^^^ pd R n (dbl R (dbl R x)) (y / 2) = dbl R ((if y % 2 = 1 then x else 0) ^^^ pd R n (dbl R x) (y / 2))
    rw [pd_dbl g n _ (dbl_lt g hx)]
    by_cases h : y % 2 = 1
    · rw [if_pos h, if_pos h, dbl_add g hx (pd_lt g n _ (dbl_lt g hx))]
    · rw [if_neg h, if_neg h, Nat.zero_xor, Nat.zero_xor]
theorem pd_dp (g : Rng R) (n : Nat) {x : Nat} (y : Nat) (hx : x < 2 ^ wd R) : ∀ k, pd R n (dp R k x) y = dp R k (pd R n x y)
  | 0 => rfl
  | k + 1 => by
    show pd R n (dbl R (dp R k x)) y = dbl R (dp R k (pd R n x y))
    rw [pd_dbl g n y (dp_lt g hx k), pd_dp g n y hx k]
/-- more steps than digits -/
theorem pd_more : ∀ (n m x y : Nat), y < 2 ^ n → pd R (n + m) x y = pd R n x y
  | 0, m, x, y, h => by
    have : y = 0 := by have : 2 ^ 0 = 1 := rfl; omega
    rw [this, pd_zero, pd_zero]
  | n + 1, m, x, y, h => by
    rw [show n + 1 + m = (n + m) + 1 by omega]
    show (if y % 2 = 1 then x else 0) ^^^ pd R (n + m) (dbl R x) (y / 2) = (if y % 2 = 1 then x else 0) ^^^ pd R n (dbl R x) (y / 2)
    rw [pd_more n m _ _ (by have := pow_s n; omega)]
theorem pd_fuel {n m x y : Nat} (hn : y < 2 ^ n) (hm : y < 2 ^ m) : pd R n x y = pd R m x y := by
  rw [← pd_more n m x y hn, Nat.add_comm, pd_more m n x y hm]
theorem pd_even (n x y : Nat) : pd R (n + 1) x (2 * y) = pd R n (dbl R x) y := by
  show (if 2 * y % 2 = 1 then x else 0) ^^^ pd R n (dbl R x) (2 * y / 2) = _
  rw [if_neg (by omega), Nat.zero_xor, show 2 * y / 2 = y by omega]
theorem pd_one (n x : Nat) : pd R (n + 1) x 1 = x := by
  show (if 1 % 2 = 1 then x else 0) ^^^ pd R n (dbl R x) (1 / 2) = x
  rw [if_pos rfl, show 1 / 2 = 0 from rfl, pd_zero, Nat.xor_zero]
theorem pd_pow : ∀ (k n x : Nat), k < n → pd R n x (2 ^ k) = dp R k x
  | 0, n + 1, x, _ => pd_one n x
  | k + 1, n + 1, x, h => by
    rw [pow_s, pd_even, pd_pow k n _ (by omega), dp_dbl]
    rfl
/-- 1 times a symbol -/
theorem pd_1 (n : Nat) : ∀ k m, 2 ^ k * m < 2 ^ wd R → m < 2 ^ n → pd R n (2 ^ k) m = 2 ^ k * m := by
  induction n with
  | zero =>
    intro k m _ h
    have : m = 0 := by have : 2 ^ 0 = 1 := rfl; omega
    subst this
    simp [pd]
  | succ n ih =>
    intro k m h hm
    show (if m % 2 = 1 then 2 ^ k else 0) ^^^ pd R n (dbl R (2 ^ k)) (m / 2) = _
    by_cases h0 : m / 2 = 0
    · rw [h0, pd_zero, Nat.xor_zero]
      have : m = 0 ∨ m = 1 := by omega
      rcases this with rfl | rfl <;> simp
    · have hs := pow_s k
      have hle : 2 ^ k * 2 ≤ 2 ^ k * m := Nat.mul_le_mul_left _ (by omega)
      have e : dbl R (2 ^ k) = 2 ^ (k + 1) := by
        unfold dbl
        rw [if_pos (by omega), hs]
      have e2 : 2 ^ (k + 1) * (m / 2) = 2 ^ k * (2 * (m / 2)) := by rw [hs, Nat.mul_comm 2, Nat.mul_assoc]
      have hle2 : 2 ^ k * (2 * (m / 2)) ≤ 2 ^ k * m := Nat.mul_le_mul_left _ (by omega)
      rw [e, ih (k + 1) (m / 2) (by omega) (by have := pow_s n; omega), e2]
      have em : m = 2 * (m / 2) + m % 2 := by omega
      by_cases ho : m % 2 = 1
      · rw [if_pos ho, Nat.xor_comm]
        have z := Nat.shiftLeft_xor_distrib (a := 2 * (m / 2)) (b := 1) (i := k)
        simp only [Nat.shiftLeft_eq] at z
        rw [Nat.one_mul, two_q_xor] at z
        rw [Nat.mul_comm (2 ^ k), ← z, ← show m = 2 * (m / 2) + 1 by omega, Nat.mul_comm]
      · rw [if_neg ho, Nat.zero_xor, ← show m = 2 * (m / 2) by omega]
theorem pd_1_all {n y : Nat} (hy : y < 2 ^ wd R) (hn : y < 2 ^ n) : pd R n 1 y = y := by
  have := pd_1 (R := R) n 0 y (by simpa using hy) hn
  simpa using this
/-- the rule itself is nought -/
theorem pd_1R (g : Rng R) {n : Nat} (hn : wd R < n) : pd R n 1 R = 0 := by
  have hs := pow_s (wd R)
  have hR : R = 2 ^ wd R ^^^ (R ^^^ 2 ^ wd R) := by rw [Nat.xor_comm R, ← Nat.xor_assoc, Nat.xor_self, Nat.zero_xor]
  have hb : R ^^^ 2 ^ wd R < 2 ^ wd R := by
    refine lt_of_bit (xor_lt g.lt (by have := Nat.two_pow_pos (wd R); omega)) ?_
    rw [Nat.testBit_xor, bit_of g.le g.lt, Nat.testBit_two_pow_self]
    rfl
  have e1 : pd R n 1 (2 ^ wd R) = R ^^^ 2 ^ wd R := by
    rw [pd_pow _ _ _ hn]
    obtain ⟨v, hv⟩ : ∃ v, wd R = v + 1 := ⟨wd R - 1, by have := g.w4; omega⟩
    have hv2 := pow_s v
    have ev : dp R v 1 = 2 ^ v := by
      have z := pd_pow (R := R) v (v + 1) 1 (by omega)
      rw [← z]
      have hp := Nat.two_pow_pos v
      exact pd_1_all (by rw [hv]; omega) (by omega)
    rw [hv]
    show dbl R (dp R v 1) = _
    rw [ev]
    unfold dbl
    rw [hv, ← hv2, if_neg (by omega), Nat.xor_comm]
  have hn2 : 2 ^ wd R ≤ 2 ^ n := Nat.pow_le_pow_right (by omega) (by omega)
  have e2 : pd R n 1 R = pd R n 1 (2 ^ wd R) ^^^ pd R n 1 (R ^^^ 2 ^ wd R) := by rw [← pd_addR, ← hR]
  rw [e2, e1, pd_1_all (y := R ^^^ 2 ^ wd R) hb (by omega), Nat.xor_self]

/-! ### each symbol but 0 is a power of 2 -/
theorem nodup_len : ∀ (n : Nat) (l : List Nat), l.Nodup → (∀ x ∈ l, x < n) → l.length ≤ n
  | 0, l, _, h => by
    cases l with
    | nil => exact Nat.le_refl _
    | cons a l => exact absurd (h a List.mem_cons_self) (by omega)
  | n + 1, l, nd, h => by
    by_cases hm : n ∈ l
    · have := nodup_len n (l.erase n) (nd.erase n) fun x hx => by
        have z := (nd.mem_erase_iff).mp hx
        have := h x z.2
        omega
      rw [List.length_erase_of_mem hm] at this
      omega
    · have := nodup_len n l nd fun x hx => by
        have h1 := h x hx
        have : x ≠ n := fun e => hm (e ▸ hx)
        omega
      omega
theorem surj {n : Nat} {f : Nat → Nat} (hi : ∀ i j, i < n → j < n → f i = f j → i = j) (hr : ∀ i, i < n → f i < n) {x : Nat} (hx : x < n) : ∃ i, i < n ∧ f i = x := by
  refine Classical.byContradiction fun hne => ?_
  have nd : ((List.range n).map f).Nodup := by
    rw [List.nodup_iff_pairwise_ne, List.pairwise_map]
    exact List.Pairwise.imp_of_mem (fun ha hb hne e => hne (hi _ _ (List.mem_range.mp ha) (List.mem_range.mp hb) e)) (List.nodup_iff_pairwise_ne.mp List.nodup_range)
  have := nodup_len n (x :: (List.range n).map f) (List.nodup_cons.mpr ⟨fun hm => ?_, nd⟩) fun y hy => ?_
  · simp only [List.length_cons, List.length_map, List.length_range] at this
    omega
  · obtain ⟨i, h1, h2⟩ := List.mem_map.mp hm
    exact hne ⟨i, List.mem_range.mp h1, h2⟩
  · rcases List.mem_cons.mp hy with rfl | hy
    · exact hx
    · obtain ⟨i, h1, rfl⟩ := List.mem_map.mp hy
      exact hr i (List.mem_range.mp h1)
theorem pw_inj (g : Good R) : ∀ {i j : Nat}, i < last R → j < last R → pw R i = pw R j → i = j := by
  have key : ∀ {i j : Nat}, i < j → j < last R → pw R i = pw R j → False := fun {i j} h hj e => by
    have e2 : pw R j = dp R i (pw R (j - i)) := by
      have := pw_add (R := R) (j - i) i
      rwa [show j - i + i = j by omega] at this
    have e3 : dp R i 1 = dp R i (pw R (j - i)) := e.trans e2
    exact g.first (j - i) (by omega) (by omega) (dp_inj g.rng (one_lt g.rng) (pw_lt g.rng _) i e3).symm
  intro i j hi hj e
  rcases Nat.lt_trichotomy i j with h | h | h
  · exact (key h hj e).elim
  · exact h
  · exact (key h hi e.symm).elim
theorem pw_surj (g : Good R) {x : Nat} (h0 : x ≠ 0) (hx : x < 2 ^ wd R) : ∃ i, i < last R ∧ pw R i = x := by
  have hl := last1 g.rng
  obtain ⟨i, h1, h2⟩ := surj (n := last R) (f := fun i => pw R i - 1) (fun i j hi hj e => pw_inj g hi hj (by have a := pw_ne g.rng i; have b := pw_ne g.rng j; omega))
    (fun i hi => by have a := pw_ne g.rng i; have b := pw_lt g.rng i; have := g.rng.l15; omega) (x := x - 1) (by omega)
  exact ⟨i, h1, by have a := pw_ne g.rng i; omega⟩
theorem pw_per (g : Good R) (k : Nat) : pw R (k + last R) = pw R k := by
  rw [Nat.add_comm, pw_add, g.back]
  rfl
theorem pw_per' (g : Good R) (k : Nat) : ∀ m, pw R (k + last R * m) = pw R k
  | 0 => by rw [Nat.mul_zero, Nat.add_zero]
  | m + 1 => by rw [Nat.mul_succ, ← Nat.add_assoc, pw_per g, pw_per' g k m]
theorem pw_mod (g : Good R) (k : Nat) : pw R (k % last R) = pw R k := by
  have := pw_per' g (k % last R) (k / last R)
  rw [Nat.mod_add_div] at this
  exact this.symm
/-! ### the rule as a factor, and products of powers -/
theorem pd_R (g : Good R) {n x : Nat} (hn : wd R < n) (hx : x < 2 ^ wd R) : pd R n x R = 0 := by
  by_cases h0 : x = 0
  · rw [h0, pd_zeroL]
  · obtain ⟨i, _, rfl⟩ := pw_surj g h0 hx
    show pd R n (dp R i 1) R = 0
    rw [pd_dp g.rng n R (one_lt g.rng) i, pd_1R g.rng hn, dp_zero]
/-- the product -/
def mul (R x y : Nat) : Nat := pd R 9 x y
theorem sym512 (g : Rng R) {x : Nat} (hx : x < 2 ^ wd R) : x < 256 := Nat.lt_of_lt_of_le hx g.p256
theorem mul_lt (g : Rng R) {x : Nat} (y : Nat) (hx : x < 2 ^ wd R) : mul R x y < 2 ^ wd R := pd_lt g 9 y hx
theorem mul_zero (x : Nat) : mul R x 0 = 0 := pd_zero 9 x
theorem zero_mul (y : Nat) : mul R 0 y = 0 := pd_zeroL 9 y
theorem mul_one (x : Nat) : mul R x 1 = x := pd_one 8 x
theorem mul_addR (x y y' : Nat) : mul R x (y ^^^ y') = mul R x y ^^^ mul R x y' := pd_addR 9 x y y'
theorem mul_addL (g : Rng R) {x x' : Nat} (y : Nat) (hx : x < 2 ^ wd R) (hx' : x' < 2 ^ wd R) : mul R (x ^^^ x') y = mul R x y ^^^ mul R x' y := pd_addL g 9 y hx hx'
theorem mul_dblL (g : Rng R) {x : Nat} (y : Nat) (hx : x < 2 ^ wd R) : mul R (dbl R x) y = dbl R (mul R x y) := pd_dbl g 9 y hx
theorem mul_dblR (g : Good R) {x y : Nat} (hx : x < 2 ^ wd R) (hy : y < 2 ^ wd R) : mul R x (dbl R y) = dbl R (mul R x y) := by
  have h2 : mul R x (2 * y) = dbl R (mul R x y) := by
    have h9 := sym512 g.rng hy
    unfold mul
    rw [pd_fuel (n := 9) (m := 10) (by omega) (by omega), pd_even, pd_dbl g.rng 9 y hx]
  unfold dbl
  split
  · rw [h2]; rfl
  · rw [mul_addR, h2]
    have : mul R x R = 0 := pd_R g (by have := g.rng.w8; omega) hx
    rw [this, Nat.xor_zero]
    rfl
theorem mul_dpR (g : Good R) {x y : Nat} (hx : x < 2 ^ wd R) (hy : y < 2 ^ wd R) : ∀ k, mul R x (dp R k y) = dp R k (mul R x y)
  | 0 => rfl
  | k + 1 => by
    show mul R x (dbl R (dp R k y)) = dbl R (dp R k (mul R x y))
    rw [mul_dblR g hx (dp_lt g.rng hy k), mul_dpR g hx hy k]
theorem mul_pw (g : Good R) (i j : Nat) : mul R (pw R i) (pw R j) = pw R (i + j) := by
  show mul R (pw R i) (dp R j 1) = _
  rw [mul_dpR g (pw_lt g.rng i) (one_lt g.rng) j, mul_one, pw_add]
theorem mul_comm (g : Good R) {x y : Nat} (hx : x < 2 ^ wd R) (hy : y < 2 ^ wd R) : mul R x y = mul R y x := by
  by_cases h0 : x = 0
  · rw [h0, zero_mul, mul_zero]
  · by_cases h1 : y = 0
    · rw [h1, zero_mul, mul_zero]
    · obtain ⟨i, _, rfl⟩ := pw_surj g h0 hx
      obtain ⟨j, _, rfl⟩ := pw_surj g h1 hy
      rw [mul_pw g, mul_pw g, Nat.add_comm]
theorem mul_assoc (g : Good R) {x y z : Nat} (hx : x < 2 ^ wd R) (hy : y < 2 ^ wd R) (hz : z < 2 ^ wd R) : mul R (mul R x y) z = mul R x (mul R y z) := by
  by_cases h0 : x = 0
  · rw [h0, zero_mul, zero_mul, zero_mul]
  · by_cases h1 : y = 0
    · rw [h1, zero_mul, mul_zero, zero_mul]
    · by_cases h2 : z = 0
      · rw [h2, mul_zero, mul_zero, mul_zero]
      · obtain ⟨i, _, rfl⟩ := pw_surj g h0 hx
        obtain ⟨j, _, rfl⟩ := pw_surj g h1 hy
        obtain ⟨k, _, rfl⟩ := pw_surj g h2 hz
        rw [mul_pw g, mul_pw g, mul_pw g, mul_pw g, Nat.add_assoc]
theorem mul_ne (g : Good R) {x y : Nat} (hx : x < 2 ^ wd R) (hy : y < 2 ^ wd R) (h0 : x ≠ 0) (h1 : y ≠ 0) : mul R x y ≠ 0 := by
  obtain ⟨i, _, rfl⟩ := pw_surj g h0 hx
  obtain ⟨j, _, rfl⟩ := pw_surj g h1 hy
  rw [mul_pw g]
  exact pw_ne g.rng _
/-! ### logs -/
def pows (R : Nat) : List Nat := (List.range (last R)).map (pw R)
def lg (R x : Nat) : Nat := if x = 0 then 0 else (pows R).idxOf x
theorem pows_len : (pows R).length = last R := by simp [pows]
theorem pows_get {k : Nat} (h : k < last R) : (pows R)[k]? = some (pw R k) := by simp [pows, h]
theorem lg_pw (g : Good R) {k : Nat} (h : k < last R) : lg R (pw R k) = k := by
  unfold lg
  rw [if_neg (pw_ne g.rng k)]
  have hm : pw R k ∈ pows R := List.mem_map.mpr ⟨k, List.mem_range.mpr h, rfl⟩
  have hl := List.idxOf_lt_length_iff.mpr hm
  rw [pows_len] at hl
  have he : (pows R)[(pows R).idxOf (pw R k)]? = some (pw R k) := by
    rw [List.getElem?_eq_getElem (by rw [pows_len]; exact hl)]
    exact congrArg some (List.getElem_idxOf _)
  rw [pows_get hl] at he
  exact pw_inj g hl h (Option.some.inj he)
theorem lg_spec (g : Good R) {x : Nat} (h0 : x ≠ 0) (hx : x < 2 ^ wd R) : lg R x < last R ∧ pw R (lg R x) = x := by
  obtain ⟨i, hi, rfl⟩ := pw_surj g h0 hx
  rw [lg_pw g hi]
  exact ⟨hi, rfl⟩
theorem lg_lt (g : Good R) {x : Nat} (hx : x < 2 ^ wd R) : lg R x < last R := by
  by_cases h : x = 0
  · rw [h]
    have := g.rng.l15
    show (if 0 = 0 then 0 else _) < _
    rw [if_pos rfl]
    omega
  · exact (lg_spec g h hx).1
theorem times_eq (g : Good R) {x y : Nat} (h0 : x ≠ 0) (h1 : y ≠ 0) (hx : x < 2 ^ wd R) (hy : y < 2 ^ wd R) : pw R ((lg R x + lg R y) % last R) = mul R x y := by
  rw [pw_mod g, ← mul_pw g, (lg_spec g h0 hx).2, (lg_spec g h1 hy).2]
def inv (R x : Nat) : Nat := pw R ((last R - lg R x) % last R)
theorem inv_lt (g : Rng R) (x : Nat) : inv R x < 2 ^ wd R := pw_lt g _
theorem mul_inv (g : Good R) {x : Nat} (h0 : x ≠ 0) (hx : x < 2 ^ wd R) : mul R x (inv R x) = 1 := by
  obtain ⟨h1, h2⟩ := lg_spec g h0 hx
  unfold inv
  rw [pw_mod g]
  have : mul R (pw R (lg R x)) (pw R (last R - lg R x)) = 1 := by
    rw [mul_pw g, show lg R x + (last R - lg R x) = last R by omega, g.back]
  rwa [h2] at this
theorem inv_ne (g : Good R) (x : Nat) : inv R x ≠ 0 := pw_ne g.rng _
/-- a rule is good: a check that runs -/
def goodB (R : Nat) : Bool := decide (16 ≤ R) && decide (R < 512) && decide (R % 2 = 1) && walkB R (last R) (last R) 1
where walkB (R L : Nat) : Nat → Nat → Bool
  | 0, x => x == 1
  | n + 1, x => (n + 1 == L || x != 1) && walkB R L n (dbl R x)
theorem walkB_ok {L : Nat} : ∀ (n : Nat) (j : Nat), n + j = L → goodB.walkB R L n (pw R j) = true → pw R L = 1 ∧ ∀ k, j ≤ k → k < L → k ≠ 0 → pw R k ≠ 1
  | 0, j, e, h => by
    have : j = L := by omega
    subst this
    exact ⟨by simpa [goodB.walkB] using h, fun k h1 h2 => by omega⟩
  | n + 1, j, e, h => by
    unfold goodB.walkB at h
    simp only [Bool.and_eq_true, Bool.or_eq_true, beq_iff_eq, bne_iff_ne] at h
    obtain ⟨h1, h2⟩ := walkB_ok n (j + 1) (by omega) h.2
    refine ⟨h1, fun k hk hL h0 => ?_⟩
    by_cases ek : k = j
    · subst ek
      rcases h.1 with h | h
      · omega
      · exact h
    · exact h2 k (by omega) hL h0
theorem good_of (h : goodB R = true) : Good R := by
  unfold goodB at h
  simp only [Bool.and_eq_true, decide_eq_true_eq] at h
  obtain ⟨⟨⟨h1, h2⟩, h3⟩, h4⟩ := h
  obtain ⟨h5, h6⟩ := walkB_ok (last R) 0 rfl h4
  exact ⟨h1, h2, h3, h5, fun k h0 hk => h6 k (Nat.zero_le _) hk (by omega)⟩
end
def rules : List Nat := [19, 25, 37, 41, 47, 55, 59, 61, 67, 91, 97, 103, 109, 115, 131, 137, 143, 145, 157, 167, 171, 185, 191, 193, 203, 211, 213, 229, 239, 241, 247, 253, 285, 299, 301, 333, 351, 355, 357, 361, 369, 391, 397, 425, 451, 463, 487, 501]
theorem rules_good : rules.all goodB = true := by decide +kernel
theorem good_rule {R : Nat} (h : R ∈ rules) : Good R := good_of (List.all_eq_true.mp rules_good R h)
def lgs (R : Nat) : List Nat := (List.range (last R + 1)).map (lg R)
theorem lgs_len {R : Nat} : (lgs R).length = last R + 1 := by simp [lgs]
theorem lgs_get {R x : Nat} (h : x ≤ last R) : (lgs R)[x]? = some (lg R x) := by simp [lgs, Nat.lt_succ_of_le h]
theorem lg_zero {R : Nat} : lg R 0 = 0 := rfl
theorem wd_of {R : Nat} (g : Rng R) {w : Nat} (h1 : 2 ^ w ≤ R) (h2 : R < 2 ^ (w + 1)) : wd R = w := by
  have a := (Nat.le_log2 (n := R) (k := w) (by have := g.lo; omega)).mpr h1
  have b := (Nat.log2_lt (n := R) (k := w + 1) (by have := g.lo; omega)).mpr h2
  unfold wd; omega
end MF

set_option Elab.async false
namespace MF
open PySem
def natI (l : List Nat) : List Int := l.map fun (n : Nat) => (n : Int)
def lastI (r : Int) : Int := (last r.toNat : Int)
def RngI (r : Int) : Prop := 0 ≤ r ∧ Rng r.toNat
def GoodI (r : Int) : Prop := 0 ≤ r ∧ Good r.toNat
def SymI (r x : Int) : Prop := 0 ≤ x ∧ x.toNat < 2 ^ wd r.toNat
def dblI (r x : Int) : Int := (dbl r.toNat x.toNat : Int)
def mulI (r x y : Int) : Int := (mul r.toNat x.toNat y.toNat : Int)
theorem GoodI.rng {r : Int} (h : GoodI r) : RngI r := ⟨h.1, h.2.rng⟩
theorem SymI.lt {r x : Int} (h : SymI r x) (g : RngI r) : x < 256 := by have := g.2.p256; have := h.2; have := h.1; omega
theorem SymI.le {r x : Int} (h : SymI r x) (g : RngI r) : x ≤ lastI r := by have := last1 g.2; have := h.2; unfold lastI; have := h.1; omega
theorem sym_of {r x : Int} (g : RngI r) (h0 : 0 ≤ x) (h : x ≤ lastI r) : SymI r x := ⟨h0, by have := last1 g.2; unfold lastI at h; omega⟩
theorem sym1 {r : Int} (g : RngI r) : SymI r 1 := ⟨by decide, one_lt g.2⟩
theorem sym0 {r : Int} : SymI r 0 := ⟨by decide, Nat.two_pow_pos _⟩
theorem dblI_sym {r x : Int} (g : RngI r) (h : SymI r x) : SymI r (dblI r x) := ⟨Int.natCast_nonneg _, by unfold dblI; rw [Int.toNat_natCast]; exact dbl_lt g.2 h.2⟩
theorem mulI_sym {r x y : Int} (g : RngI r) (h : SymI r x) : SymI r (mulI r x y) := ⟨Int.natCast_nonneg _, by unfold mulI; rw [Int.toNat_natCast]; exact mul_lt g.2 _ h.2⟩
theorem natI_len {l : List Nat} : (natI l).length = l.length := by simp [natI]
theorem natI_get {l : List Nat} {i n : Nat} (h : l[i]? = some n) : (natI l)[i]? = some (n : Int) := by simp [natI, h]
theorem xorI {x y : Int} (hx : 0 ≤ x) (hy : 0 ≤ y) : Builtin.bitXor x y = ((x.toNat ^^^ y.toNat : Nat) : Int) := Bits.bitXor_pp hx hy
theorem lastI_pos {r : Int} (g : GoodI r) : 0 < lastI r := by have := g.2.rng.l15; unfold lastI; omega
theorem dblI_step {r x l : Int} (g : RngI r) (h : SymI r x) (hl : l = lastI r) : (bif decide (l < x * 2 ^ (1 : Int).toNat) then Builtin.bitXor (x * 2 ^ (1 : Int).toNat) r else x * 2 ^ (1 : Int).toNat) = dblI r x := by
  have e1 : x * 2 ^ (1 : Int).toNat = 2 * x := by
    show x * 2 ^ 1 = 2 * x
    omega
  have h1 := last1 g.2
  have h0 := h.1
  rw [e1, hl]
  unfold dblI dbl lastI
  by_cases c : 2 * x.toNat < 2 ^ wd r.toNat
  · rw [if_pos c, decide_eq_false (by omega)]
    show 2 * x = _
    omega
  · rw [if_neg c, decide_eq_true (by omega)]
    show Builtin.bitXor (2 * x) r = _
    rw [xorI (by omega) g.1, show (2 * x).toNat = 2 * x.toNat by omega]
/-- what stands between two turns of walk_of -/
def WalkInv (r : Int) (found : List Int) (one : Int) : Prop := ∃ k, 1 ≤ k ∧ k ≤ last r.toNat ∧ found = natI ((List.range k).map (pw r.toNat)) ∧ one = (pw r.toNat k : Int)
theorem walk0 {r : Int} {found : List Int} {one : Int} (g : GoodI r) (h : found = [1]) (h2 : one = dblI r 1) : WalkInv r found one := by
  refine ⟨1, Nat.le_refl _, by have := g.2.rng.l15; omega, ?_, ?_⟩
  · rw [h]; rfl
  · rw [h2]; rfl
theorem WalkInv.len {r : Int} {found : List Int} {one : Int} (h : WalkInv r found one) (g : GoodI r) : found.length ≤ 255 := by
  obtain ⟨k, h1, h2, rfl, _⟩ := h
  have := g.2.rng.l255
  simp only [natI_len, List.length_map, List.length_range]
  omega
theorem WalkInv.sym {r : Int} {found : List Int} {one : Int} (h : WalkInv r found one) (g : GoodI r) : SymI r one := by
  obtain ⟨k, h1, h2, _, rfl⟩ := h
  exact ⟨Int.natCast_nonneg _, by rw [Int.toNat_natCast]; exact pw_lt g.2.rng k⟩
theorem WalkInv.step {r : Int} {found found' : List Int} {one one' : Int} (h : WalkInv r found one) (g : GoodI r) (hc : (!decide (one = 1)) = true) (e1 : found' = found ++ [one]) (e2 : one' = dblI r one) : WalkInv r found' one' ∧ 300 - found'.length < 300 - found.length := by
  have hl := h.len g
  obtain ⟨k, h1, h2, rfl, rfl⟩ := h
  have hk : k ≠ last r.toNat := fun e => by
    rw [e, g.2.back] at hc
    simp at hc
  refine ⟨⟨k + 1, by omega, by omega, ?_, ?_⟩, ?_⟩
  · rw [e1]
    unfold natI
    rw [List.range_succ, List.map_append, List.map_append]
    rfl
  · rw [e2]
    unfold dblI
    rw [Int.toNat_natCast]
    rfl
  · rw [e1, List.length_append, List.length_singleton]
    omega
theorem WalkInv.done {r : Int} {found : List Int} {one : Int} (h : WalkInv r found one) (g : GoodI r) (hc : (!decide (one = 1)) = false) : found = natI (pows r.toNat) := by
  obtain ⟨k, h1, h2, rfl, rfl⟩ := h
  have e : pw r.toNat k = 1 := by
    have : (pw r.toNat k : Int) = 1 := by simpa using hc
    omega
  have hk : k = last r.toNat := Classical.byContradiction fun hne => g.2.first k (by omega) (by omega) e
  rw [hk]
  rfl
/-- what stands between two turns of the logs' loop -/
structure LogInv (R i : Nat) (ls : List Nat) : Prop where
  len : ls.length = last R + 1
  zero : ls[0]? = some 0
  got : ∀ j, j < i → ls[pw R j]? = some j
theorem logInv0 {R : Nat} : LogInv R 0 (List.replicate (last R + 1) 0) := ⟨by simp, by simp, fun j h => absurd h (by omega)⟩
theorem LogInv.step {R i : Nat} {ls : List Nat} (h : LogInv R i ls) (g : Good R) (hi : i < last R) : LogInv R (i + 1) (ls.set (pw R i) i) := by
  have hp := pw_lt g.rng i
  have h1 := last1 g.rng
  have hn := pw_ne g.rng i
  refine ⟨by rw [List.length_set]; exact h.len, ?_, fun j hj => ?_⟩
  · rw [List.getElem?_set_ne hn]
    exact h.zero
  · by_cases e : j = i
    · subst e
      rw [List.getElem?_set_self (by rw [h.len]; omega)]
    · rw [List.getElem?_set_ne (fun q => e (pw_inj g (by omega) hi q.symm))]
      exact h.got j (by omega)
theorem LogInv.done {R : Nat} {ls : List Nat} (h : LogInv R (last R) ls) (g : Good R) : ls = lgs R := by
  have h1 := last1 g.rng
  apply List.ext_getElem?
  intro x
  by_cases hx : x ≤ last R
  · rw [lgs_get hx]
    by_cases h0 : x = 0
    · rw [h0, lg_zero]
      exact h.zero
    · obtain ⟨hl, e⟩ := lg_spec g h0 (by omega)
      have := h.got _ hl
      rw [e] at this
      exact this
  · rw [List.getElem?_eq_none (by rw [h.len]; omega), List.getElem?_eq_none (by rw [lgs_len]; omega)]
theorem ix_log {r x : Int} (g : GoodI r) (h : SymI r x) : (natI (lgs r.toNat))[x.toNat]? = some (lg r.toNat x.toNat : Int) := natI_get (lgs_get (by have := h.2; have := last1 g.2.rng; omega))
theorem ix_sum0 {r : Int} (g : GoodI r) {a b : Nat} : 0 ≤ ((a : Int) + (b : Int)) % lastI r := Int.emod_nonneg _ (Int.ne_of_gt (lastI_pos g))
theorem ix_pow {r : Int} (g : GoodI r) {a b : Nat} : (natI (pows r.toNat))[(((a : Int) + (b : Int)) % lastI r).toNat]? = some (pw r.toNat ((a + b) % last r.toNat) : Int) := by
  have e : (((a : Int) + (b : Int)) % lastI r).toNat = (a + b) % last r.toNat := by
    unfold lastI
    rw [← Int.natCast_add, ← Int.natCast_emod, Int.toNat_natCast]
  rw [e]
  exact natI_get (pows_get (Nat.mod_lt _ (by have := g.2.rng.l15; omega)))
theorem mulI_zero {r x y : Int} (hc : (decide (x = 0) || decide (y = 0)) = true) : (0 : Int) = mulI r x y := by
  simp only [Bool.or_eq_true, decide_eq_true_eq] at hc
  unfold mulI
  rcases hc with rfl | rfl
  · rw [show (0 : Int).toNat = 0 from rfl, zero_mul]; rfl
  · rw [show (0 : Int).toNat = 0 from rfl, mul_zero]; rfl
theorem times_eqI {r x y : Int} (g : GoodI r) (hx : SymI r x) (hy : SymI r y) (hc : (decide (x = 0) || decide (y = 0)) = false) : (pw r.toNat ((lg r.toNat x.toNat + lg r.toNat y.toNat) % last r.toNat) : Int) = mulI r x y := by
  simp only [Bool.or_eq_false_iff, decide_eq_false_iff_not] at hc
  unfold mulI
  rw [times_eq g.2 (by have := hx.1; omega) (by have := hy.1; omega) hx.2 hy.2]
/-! ### the laws' own words -/
def ruleI (c : Int) : Int := ((rules.getD (c % 48).toNat 19 : Nat) : Int)
theorem rule_ix (c : Int) : (natI rules)[(c % 48).toNat]? = some (ruleI c) := by
  have h : (c % 48).toNat < rules.length := by
    have h1 := Int.emod_nonneg c (by decide : (48 : Int) ≠ 0)
    have h2 := Int.emod_lt_of_pos c (by decide : (0 : Int) < 48)
    show (c % 48).toNat < 48
    omega
  unfold ruleI
  rw [List.getD_eq_getElem?_getD, List.getElem?_eq_getElem h]
  exact natI_get (List.getElem?_eq_getElem h)
theorem rule_good (c : Int) : GoodI (ruleI c) := by
  unfold ruleI
  refine ⟨Int.natCast_nonneg _, ?_⟩
  rw [Int.toNat_natCast]
  refine good_rule ?_
  have h : (c % 48).toNat < rules.length := by
    have h1 := Int.emod_nonneg c (by decide : (48 : Int) ≠ 0)
    have h2 := Int.emod_lt_of_pos c (by decide : (0 : Int) < 48)
    show (c % 48).toNat < 48
    omega
  rw [List.getD_eq_getElem?_getD, List.getElem?_eq_getElem h]
  exact List.getElem_mem h
def cellI (s : List Int) (k : Int) : Int := s.getD k.toNat 0
theorem cell_ix {s : List Int} {k : Int} (hk : 0 ≤ k) (h : decide (k < (s.length : Int)) = true) : s[k.toNat]? = some (cellI s k) := by
  have h := of_decide_eq_true h
  unfold cellI
  rw [List.getD_eq_getElem?_getD, List.getElem?_eq_getElem (by omega)]
  rfl
theorem cell_out {s : List Int} {k : Int} (h : decide (k < (s.length : Int)) = false) : (0 : Int) = cellI s k := by
  have h := of_decide_eq_false h
  unfold cellI
  rw [List.getD_eq_getElem?_getD, List.getElem?_eq_none (by omega)]
  rfl
theorem bit1 (x : Int) : Builtin.bitAnd x 1 = x % 2 := PyProof.Rows.bitAnd_m1 x
/-- the width as the laws seek it -/
theorem width_go {r w : Int} (g : RngI r) (h : 4 ≤ w) (h8 : w ≤ (wd r.toNat : Int)) : (decide (0 < r / 2 ^ (w + 1).toNat) = true) ↔ w + 1 ≤ (wd r.toNat : Int) := by
  rw [decide_eq_true_iff]
  have h0 := g.1
  have hw : (w + 1).toNat = w.toNat + 1 := by omega
  have e : r / 2 ^ (w + 1).toNat = ((r.toNat / 2 ^ (w.toNat + 1) : Nat) : Int) := by
    rw [hw, Int.natCast_ediv, Int.toNat_of_nonneg h0]
    simp
  rw [e]
  have hp := Nat.two_pow_pos (w.toNat + 1)
  have : 0 < r.toNat / 2 ^ (w.toNat + 1) ↔ 2 ^ (w.toNat + 1) ≤ r.toNat := Nat.div_pos_iff.trans ⟨fun z => z.2, fun z => ⟨hp, z⟩⟩
  have l := Nat.le_log2 (n := r.toNat) (k := w.toNat + 1) (by have := g.2.lo; omega)
  unfold wd
  omega
end MF

set_option Elab.async false
namespace MF
open PySem
section
variable {R : Nat}
/-! the product as a sum over the second symbol's digits, from the top -/
def sb (R x y : Nat) : Nat → Nat
  | 0 => 0
  | i + 1 => sb R x y i ^^^ (if y.testBit i then dp R i x else 0)
theorem sb_shift (x y : Nat) : ∀ n, sb R x y (n + 1) = (if y % 2 = 1 then x else 0) ^^^ sb R (dbl R x) (y / 2) n
  | 0 => by
    show 0 ^^^ (if y.testBit 0 then x else 0) = (if y % 2 = 1 then x else 0) ^^^ 0
    rw [Nat.xor_zero, Nat.zero_xor, Nat.testBit_zero]
    by_cases h : y % 2 = 1 <;> simp [h]
  | n + 1 => by
    show sb R x y (n + 1) ^^^ (if y.testBit (n + 1) then dp R (n + 1) x else 0) = _ ^^^ (sb R (dbl R x) (y / 2) n ^^^ (if (y / 2).testBit n then dp R n (dbl R x) else 0))
    rw [sb_shift x y n, Nat.testBit_succ, dp_dbl, Nat.xor_assoc]
    rfl
theorem pd_sb : ∀ (n x y : Nat), pd R n x y = sb R x y n
  | 0, _, _ => rfl
  | n + 1, x, y => by
    rw [sb_shift]
    show (if y % 2 = 1 then x else 0) ^^^ pd R n (dbl R x) (y / 2) = _
    rw [pd_sb n]
/-! the long product -/
def lp (x y : Nat) : Nat → Nat
  | 0 => 0
  | i + 1 => lp x y i ^^^ (if y.testBit i then x * 2 ^ i else 0)
def ev (R p : Nat) : Nat := pd R 32 1 p
theorem ev_xor (a b : Nat) : ev R (a ^^^ b) = ev R a ^^^ ev R b := pd_addR 32 1 a b
theorem ev_zero : ev R 0 = 0 := pd_zero 32 1
theorem ev_sym (g : Rng R) {x : Nat} (h : x < 2 ^ wd R) : ev R x = x := pd_1_all h (by have := sym512 g h; omega)
theorem pd_shift : ∀ (k n x y : Nat), pd R (n + k) x (y * 2 ^ k) = pd R n (dp R k x) y
  | 0, n, x, y => by rw [Nat.pow_zero, Nat.mul_one]; rfl
  | k + 1, n, x, y => by
    rw [show y * 2 ^ (k + 1) = 2 * (y * 2 ^ k) by rw [pow_s, Nat.mul_left_comm], ← Nat.add_assoc, pd_even, pd_shift k, dp_dbl]
    rfl
theorem ev_shift_sym (g : Rng R) {x k : Nat} (hk : k ≤ 16) (hx : x < 2 ^ wd R) : ev R (x * 2 ^ k) = dp R k x := by
  unfold ev
  have h9 := sym512 g hx
  rw [show 32 = (32 - k) + k by omega, pd_shift]
  rw [pd_dp g _ _ (one_lt g)]
  congr 1
  have h5 : 2 ^ 8 ≤ 2 ^ (32 - k) := Nat.pow_le_pow_right (by omega) (by omega)
  exact pd_1_all hx (by omega)
theorem ev_rule (g : Good R) {k : Nat} (hk : k ≤ 16) : ev R (R * 2 ^ k) = 0 := by
  unfold ev
  rw [show 32 = (32 - k) + k by omega, pd_shift]
  exact pd_R g (by have := g.rng.w8; omega) (dp_lt g.rng (one_lt g.rng) k)
theorem ev_lp (g : Rng R) {x y : Nat} (hx : x < 2 ^ wd R) : ∀ i, i ≤ 16 → ev R (lp x y i) = sb R x y i
  | 0, _ => ev_zero
  | i + 1, h => by
    show ev R (lp x y i ^^^ _) = sb R x y i ^^^ _
    rw [ev_xor, ev_lp g hx i (by omega)]
    congr 1
    split
    · exact ev_shift_sym g (by omega) hx
    · exact ev_zero
theorem lp_lt {x y w : Nat} (hx : x < 2 ^ w) : ∀ i, i ≤ w → lp x y i < 2 ^ (2 * w - 1) ∨ w = 0
  | 0, _ => .inl (Nat.two_pow_pos _)
  | i + 1, h => by
    rcases lp_lt (y := y) hx i (by omega) with h1 | h1
    · left
      refine Nat.xor_lt_two_pow h1 ?_
      split
      · have e : x * 2 ^ i < 2 ^ w * 2 ^ i := Nat.mul_lt_mul_of_pos_right hx (Nat.two_pow_pos i)
        rw [← Nat.pow_add] at e
        exact Nat.lt_of_lt_of_le e (Nat.pow_le_pow_right (by omega) (by omega))
      · exact Nat.two_pow_pos _
    · exact .inr h1
end
/-! in ints -/
theorem shrI {x : Int} {k : Nat} (h : 0 ≤ x) : x / 2 ^ k = ((x.toNat / 2 ^ k : Nat) : Int) := by
  rw [Int.natCast_ediv, Int.toNat_of_nonneg h]
  simp
theorem bitI {x k : Int} (h : 0 ≤ x) : (decide (Builtin.bitAnd (x / 2 ^ k.toNat) 1 = 1)) = x.toNat.testBit k.toNat := by
  rw [bit1, shrI h]
  rw [Nat.testBit_eq_decide_div_mod_eq]
  by_cases c : x.toNat / 2 ^ k.toNat % 2 = 1
  · rw [decide_eq_true c, decide_eq_true (by omega)]
  · rw [decide_eq_false c, decide_eq_false (by omega)]
/-- the first loop -/
structure LongA (r x y : Int) (i : Nat) (f : Int) : Prop where
  eq : f = (lp x.toNat y.toNat i : Int)
theorem longA0 {r x y f : Int} (h : f = 0) : LongA r x y 0 f := ⟨h⟩
theorem LongA.step {r x y : Int} {i : Nat} {f f' : Int} {b : Bool} (h : LongA r x y i f) (hx : 0 ≤ x) (hb : b = y.toNat.testBit i) (e : f' = bif b then Builtin.bitXor f (x * 2 ^ i) else f) : LongA r x y (i + 1) f' := by
  refine ⟨?_⟩
  rw [e, h.eq, hb]
  show _ = ((lp x.toNat y.toNat i ^^^ (if y.toNat.testBit i then x.toNat * 2 ^ i else 0) : Nat) : Int)
  cases y.toNat.testBit i with
  | false => simp
  | true =>
    have e2 : x * 2 ^ i = ((x.toNat * 2 ^ i : Nat) : Int) := by
      rw [Int.natCast_mul, Int.toNat_of_nonneg hx]
      simp
    show Builtin.bitXor _ _ = _
    rw [e2, xorI (Int.natCast_nonneg _) (Int.natCast_nonneg _), Int.toNat_natCast, Int.toNat_natCast]
    simp
/-- the second loop -/
structure LongB (r x y : Int) (i : Nat) (f : Int) : Prop where
  pos : 0 ≤ f
  lt : f.toNat < 2 ^ (max (wd r.toNat) (2 * wd r.toNat - 1 - i))
  ev : ev r.toNat f.toNat = sb r.toNat x.toNat y.toNat (wd r.toNat)
theorem longB0 {r x y f : Int} (g : GoodI r) (hx : SymI r x) (h : LongA r x y (wd r.toNat) f) : LongB r x y 0 f := by
  have w4 := g.2.rng.w4
  have w8 := g.2.rng.w8
  refine ⟨by rw [h.eq]; exact Int.natCast_nonneg _, ?_, ?_⟩
  · rw [h.eq, Int.toNat_natCast]
    rcases lp_lt (y := y.toNat) hx.2 (wd r.toNat) (Nat.le_refl _) with h1 | h1
    · exact Nat.lt_of_lt_of_le h1 (Nat.pow_le_pow_right (by omega) (by omega))
    · omega
  · rw [h.eq, Int.toNat_natCast]
    exact ev_lp g.2.rng hx.2 _ (by omega)
theorem LongB.step {r x y : Int} {i : Nat} {f f' p : Int} {b : Bool} (h : LongB r x y i f) (g : GoodI r) (hi : i < wd r.toNat) (hp : p = 2 * (wd r.toNat : Int) - 2 - i) (hb : b = (decide ((wd r.toNat : Int) ≤ p) && f.toNat.testBit p.toNat))
    (e : f' = bif b then Builtin.bitXor f (r * 2 ^ (p - (wd r.toNat : Int)).toNat) else f) : LongB r x y (i + 1) f' := by
  have w4 := g.2.rng.w4
  have w8 := g.2.rng.w8
  by_cases c : (wd r.toNat : Int) ≤ p
  · rw [decide_eq_true c, Bool.true_and] at hb
    have ep : p.toNat = 2 * wd r.toNat - 1 - (i + 1) := by omega
    have em : max (wd r.toNat) (2 * wd r.toNat - 1 - i) = p.toNat + 1 := by omega
    have hlt := h.lt
    rw [em] at hlt
    have em2 : max (wd r.toNat) (2 * wd r.toNat - 1 - (i + 1)) = p.toNat := by omega
    cases q : f.toNat.testBit p.toNat with
    | false =>
      rw [hb, q] at e
      have e : f' = f := e
      rw [e]
      exact ⟨h.pos, by rw [em2]; exact lt_of_bit hlt q, h.ev⟩
    | true =>
      rw [hb, q] at e
      have e : f' = Builtin.bitXor f (r * 2 ^ (p - (wd r.toNat : Int)).toNat) := e
      have ek : (p - (wd r.toNat : Int)).toNat = p.toNat - wd r.toNat := by omega
      have e2 : r * 2 ^ (p.toNat - wd r.toNat) = ((r.toNat * 2 ^ (p.toNat - wd r.toNat) : Nat) : Int) := by
        rw [Int.natCast_mul, Int.toNat_of_nonneg g.1]
        simp
      rw [ek, e2, xorI h.pos (Int.natCast_nonneg _), Int.toNat_natCast] at e
      have hr1 : 2 ^ p.toNat ≤ r.toNat * 2 ^ (p.toNat - wd r.toNat) := by
        have := Nat.mul_le_mul_right (2 ^ (p.toNat - wd r.toNat)) g.2.rng.le
        rw [← Nat.pow_add, show wd r.toNat + (p.toNat - wd r.toNat) = p.toNat by omega] at this
        exact this
      have hr2 : r.toNat * 2 ^ (p.toNat - wd r.toNat) < 2 ^ (p.toNat + 1) := by
        have := Nat.mul_lt_mul_of_pos_right g.2.rng.lt (Nat.two_pow_pos (p.toNat - wd r.toNat))
        rw [← Nat.pow_add, show wd r.toNat + 1 + (p.toNat - wd r.toNat) = p.toNat + 1 by omega] at this
        exact this
      refine ⟨by rw [e]; exact Int.natCast_nonneg _, ?_, ?_⟩
      · rw [e, Int.toNat_natCast, em2]
        refine lt_of_bit (xor_lt hlt hr2) ?_
        rw [Nat.testBit_xor, q, bit_of hr1 hr2]
        rfl
      · rw [e, Int.toNat_natCast, ev_xor, ev_rule g.2 (by omega), Nat.xor_zero]
        exact h.ev
  · rw [decide_eq_false c, Bool.false_and] at hb
    rw [hb] at e
    have e : f' = f := e
    rw [e]
    refine ⟨h.pos, ?_, h.ev⟩
    have := h.lt
    rw [show max (wd r.toNat) (2 * wd r.toNat - 1 - i) = wd r.toNat by omega] at this
    rw [show max (wd r.toNat) (2 * wd r.toNat - 1 - (i + 1)) = wd r.toNat by omega]
    exact this
theorem LongB.done {r x y f : Int} (h : LongB r x y (wd r.toNat) f) (g : GoodI r) (hx : SymI r x) (hy : SymI r y) : f = mulI r x y := by
  have w4 := g.2.rng.w4
  have w8 := g.2.rng.w8
  have hlt := h.lt
  rw [show max (wd r.toNat) (2 * wd r.toNat - 1 - wd r.toNat) = wd r.toNat by omega] at hlt
  have e := h.ev
  rw [ev_sym g.2.rng hlt, ← pd_sb] at e
  have hy2 := hy.2
  have hy3 := sym512 g.2.rng hy2
  unfold mulI mul
  rw [← pd_fuel (n := wd r.toNat) (m := 9) (by omega) (by omega), ← e]
  have := h.pos
  omega
theorem mulI_comm {r x y : Int} (g : GoodI r) (hx : SymI r x) (hy : SymI r y) : mulI r x y = mulI r y x := by
  unfold mulI
  rw [mul_comm g.2 hx.2 hy.2]
theorem mulI_two {r x : Int} (g : GoodI r) (hx : SymI r x) : mulI r x 2 = dblI r x := by
  unfold mulI dblI
  have h := mul_dblR g.2 hx.2 (one_lt g.2.rng)
  have e : dbl r.toNat 1 = 2 := by
    unfold dbl
    have := g.2.rng.p16
    rw [if_pos (by omega)]
  rw [e, mul_one] at h
  rw [show (2 : Int).toNat = 2 from rfl, h]
theorem lastI_pow {r : Int} (g : RngI r) : (1 : Int) * 2 ^ ((wd r.toNat : Int)).toNat = lastI r + 1 := by
  have := last1 g.2
  unfold lastI
  rw [Int.toNat_natCast, Int.one_mul]
  have e : ((last r.toNat + 1 : Nat) : Int) = ((2 ^ wd r.toNat : Nat) : Int) := by rw [this]
  simpa using e.symm
theorem sym_mod {r c m : Int} (g : RngI r) (h : m = lastI r + 1) : SymI r (c % m) := by
  have hl : 0 ≤ lastI r := Int.natCast_nonneg _
  exact sym_of g (Int.emod_nonneg _ (by omega)) (by have := Int.emod_lt_of_pos c (show 0 < m by omega); omega)
theorem sym2 {r : Int} (g : RngI r) : SymI r 2 := ⟨by decide, by have := g.2.p16; show 2 < _; omega⟩
def thirdI (m k : Int) : Int := if k % 3 = 0 then 0 else if k % 3 = 1 then 1 else m
theorem third_ix {m k : Int} : ([0, 1, m] : List Int)[(k % 3).toNat]? = some (thirdI m k) := by
  have h1 := Int.emod_nonneg k (by decide : (3 : Int) ≠ 0)
  have h2 := Int.emod_lt_of_pos k (by decide : (0 : Int) < 3)
  unfold thirdI
  have : k % 3 = 0 ∨ k % 3 = 1 ∨ k % 3 = 2 := by omega
  rcases this with e | e | e <;> rw [e] <;> rfl
theorem third_sym {r m k : Int} (g : RngI r) (h : m = lastI r + 1) : SymI r (thirdI (m - 1) k) := by
  unfold thirdI
  split
  · exact sym0
  · split
    · exact sym1 g
    · exact sym_of g (by rw [h]; unfold lastI; omega) (by omega)
theorem two_sym {r a b x : Int} {i : Nat} (h : ([a, b] : List Int)[i]? = some x) (ha : SymI r a) (hb : SymI r b) : SymI r x := by
  match i, h with
  | 0, h => cases h; exact ha
  | 1, h => cases h; exact hb
end MF

set_option Elab.async false
namespace MF
open PySem
/-! MP: the laws' product by doubling, and their top. -/
theorem rngI_of (c : Int) : RngI (ruleI c) := (rule_good c).rng
/-- the top that the laws seek -/
def TopInv (r t : Int) : Prop := ∃ w : Nat, t = ((2 ^ w : Nat) : Int) ∧ 4 ≤ w ∧ w ≤ wd r.toNat
theorem top0 {r t : Int} (g : RngI r) (h : t = 16) : TopInv r t := ⟨4, h, Nat.le_refl _, g.2.w4⟩
theorem TopInv.step {r t t' : Int} (h : TopInv r t) (g : RngI r) (hc : decide (t * 2 ≤ r) = true) (e : t' = t * 2) : TopInv r t' ∧ 1024 - t'.toNat < 1024 - t.toNat := by
  obtain ⟨w, rfl, h1, h2⟩ := h
  have hc := of_decide_eq_true hc
  have hs := pow_s w
  have hr := g.1
  have h3 : 2 ^ (w + 1) ≤ r.toNat := by omega
  have h4 := (Nat.le_log2 (n := r.toNat) (k := w + 1) (by have := g.2.lo; omega)).mpr h3
  have h5 := g.2.hi
  have hp := Nat.two_pow_pos w
  refine ⟨⟨w + 1, by omega, by omega, h4⟩, by omega⟩
theorem TopInv.done {r t : Int} (h : TopInv r t) (g : RngI r) (hc : decide (t * 2 ≤ r) = false) : t = lastI r + 1 := by
  obtain ⟨w, rfl, h1, h2⟩ := h
  have hc := of_decide_eq_false hc
  have hs := pow_s w
  have hr := g.1
  have e : wd r.toNat = w := wd_of g.2 (Nat.le_trans (Nat.pow_le_pow_right (by omega) h2) g.2.le) (by omega)
  have hl := last1 g.2
  rw [e] at hl
  unfold lastI
  omega
theorem TopInv.lt {r t : Int} (h : TopInv r t) (g : RngI r) : 16 ≤ t ∧ t ≤ 512 := by
  obtain ⟨w, rfl, h1, h2⟩ := h
  have a := Nat.pow_le_pow_right (n := 2) (by omega) h1
  have b := Nat.pow_le_pow_right (n := 2) (by omega) (Nat.le_trans h2 g.2.w8)
  have : (2 : Nat) ^ 4 = 16 := rfl
  have : (2 : Nat) ^ 8 = 256 := rfl
  omega
/-- what stands between two turns of the product by doubling -/
structure PrInv (r x y f o c : Int) : Prop where
  sym : SymI r c
  f0 : 0 ≤ f
  o0 : 0 ≤ o
  o1 : o < 512
  eq : f.toNat ^^^ pd r.toNat 9 c.toNat o.toNat = mul r.toNat x.toNat y.toNat
theorem pr0 {r x y f : Int} (hx : SymI r x) (hy0 : 0 ≤ y) (hy : y < 512) (h : f = 0) : PrInv r x y f y x := ⟨hx, by omega, hy0, hy, by subst h; exact Nat.zero_xor _⟩
theorem pd_half {R c o : Nat} (ho : o < 512) : pd R 9 c o = (if o % 2 = 1 then c else 0) ^^^ pd R 9 (dbl R c) (o / 2) := by
  show (if o % 2 = 1 then c else 0) ^^^ pd R 8 (dbl R c) (o / 2) = _
  rw [pd_fuel (n := 8) (m := 9) (by omega) (by omega)]
theorem dblI_ge {r c t : Int} (g : RngI r) (h : SymI r c) (ht : t = lastI r + 1) : (bif decide (t ≤ c * 2) then Builtin.bitXor (c * 2) r else c * 2) = dblI r c := by
  have := dblI_step g h (l := lastI r) rfl
  have e1 : c * 2 ^ (1 : Int).toNat = c * 2 := by
    show c * 2 ^ 1 = c * 2
    omega
  rw [e1] at this
  rw [← this, ht]
  by_cases q : lastI r < c * 2
  · rw [decide_eq_true q, decide_eq_true (by omega)]
  · rw [decide_eq_false q, decide_eq_false (by omega)]
theorem PrInv.step {r x y f o c f' o' c1 c' t : Int} {b : Bool} (h : PrInv r x y f o c) (g : RngI r) (ht : t = lastI r + 1) (hc : decide (0 < o) = true) (hb : b = decide (o % 2 = 1)) (ef : f' = bif b then Builtin.bitXor f c else f) (eo : o' = o / 2) (e1 : c1 = c * 2)
    (ec : c' = bif decide (t ≤ c1) then Builtin.bitXor c1 r else c1) : PrInv r x y f' o' c' ∧ o'.toNat < o.toNat := by
  have hc := of_decide_eq_true hc
  have ec2 : c' = dblI r c := by rw [ec, e1]; exact dblI_ge g h.sym ht
  have h0 := h.o0
  have h1 := h.o1
  have c0 := h.sym.1
  have f0 := h.f0
  refine ⟨⟨by rw [ec2]; exact dblI_sym g h.sym, ?_, by omega, by omega, ?_⟩, by omega⟩
  · rw [ef]
    cases b with
    | false => exact h.f0
    | true => exact Bits.bitXor_nonneg h.f0 c0
  · rw [← h.eq, pd_half (R := r.toNat) (c := c.toNat) (o := o.toNat) (by omega), ec2]
    unfold dblI
    rw [Int.toNat_natCast, show o'.toNat = o.toNat / 2 by omega, ef, hb]
    by_cases q : o % 2 = 1
    · rw [decide_eq_true q, if_pos (by omega)]
      show (Builtin.bitXor f c).toNat ^^^ _ = _
      rw [xorI f0 c0, Int.toNat_natCast, Nat.xor_assoc]
    · rw [decide_eq_false q, if_neg (by omega), Nat.zero_xor]
      try rfl
theorem PrInv.done {r x y f o c : Int} (h : PrInv r x y f o c) (hc : decide (0 < o) = false) : f = mulI r x y := by
  have hc := of_decide_eq_false hc
  have h0 := h.o0
  have e := h.eq
  rw [show o.toNat = 0 by omega, pd_zero, Nat.xor_zero] at e
  unfold mulI
  rw [← e]
  have := h.f0
  omega
theorem SymI.lt512 {r x : Int} (h : SymI r x) (g : RngI r) : x < 512 := by have := h.lt g; omega
theorem mulI_assoc {r x y z : Int} (g : GoodI r) (hx : SymI r x) (hy : SymI r y) (hz : SymI r z) : mulI r (mulI r x y) z = mulI r x (mulI r y z) := by
  unfold mulI
  rw [Int.toNat_natCast, Int.toNat_natCast, mul_assoc g.2 hx.2 hy.2 hz.2]
theorem mulI_one {r x : Int} (hx : SymI r x) : mulI r x 1 = x := by
  unfold mulI
  rw [show (1 : Int).toNat = 1 from rfl, mul_one]
  have := hx.1
  omega
theorem mulI_one' {r x : Int} (g : GoodI r) (hx : SymI r x) : mulI r 1 x = x := by rw [mulI_comm g (sym1 g.rng) hx, mulI_one hx]
theorem xor_sym {r x y : Int} (g : RngI r) (hx : SymI r x) (hy : SymI r y) : SymI r (Builtin.bitXor x y) := by
  rw [xorI hx.1 hy.1]
  exact ⟨Int.natCast_nonneg _, by rw [Int.toNat_natCast]; exact xor_lt hx.2 hy.2⟩
theorem mulI_add {r x x' y : Int} (g : RngI r) (hx : SymI r x) (hx' : SymI r x') : mulI r (Builtin.bitXor x x') y = Builtin.bitXor (mulI r x y) (mulI r x' y) := by
  unfold mulI
  rw [xorI hx.1 hx'.1, xorI (Int.natCast_nonneg _) (Int.natCast_nonneg _), Int.toNat_natCast, Int.toNat_natCast, Int.toNat_natCast, mul_addL g.2 _ hx.2 hx'.2]
theorem mulI_addR {r x y y' : Int} (hy : 0 ≤ y) (hy' : 0 ≤ y') : mulI r x (Builtin.bitXor y y') = Builtin.bitXor (mulI r x y) (mulI r x y') := by
  unfold mulI
  rw [xorI hy hy', xorI (Int.natCast_nonneg _) (Int.natCast_nonneg _), Int.toNat_natCast, Int.toNat_natCast, Int.toNat_natCast, mul_addR]
theorem mulI_eq0 {r x y : Int} (g : GoodI r) (hx : SymI r x) (hy : SymI r y) : mulI r x y = 0 ↔ x = 0 ∨ y = 0 := by
  constructor
  · intro h
    refine Classical.byContradiction fun hn => ?_
    have := mul_ne g.2 hx.2 hy.2 (by have := hx.1; omega) (by have := hy.1; omega)
    unfold mulI at h
    omega
  · intro h
    refine (mulI_zero ?_).symm
    simpa using h
end MF

set_option Elab.async false
namespace MF
open PySem
theorem fold_step {α β : Type} {f : β → α → β} {a : β} {l : List α} {i : Nat} {x : α} (h : l[i]? = some x) : (l.take (i + 1)).foldl f a = f ((l.take i).foldl f a) x := by
  obtain ⟨hi, rfl⟩ := List.getElem?_eq_some_iff.mp h
  rw [List.take_succ_eq_append_getElem hi, List.foldl_append]
  rfl
theorem map_step {α β : Type} {f : α → β} {l : List α} {i : Nat} {x : α} (h : l[i]? = some x) : (l.take (i + 1)).map f = (l.take i).map f ++ [f x] := by
  obtain ⟨hi, rfl⟩ := List.getElem?_eq_some_iff.mp h
  rw [List.take_succ_eq_append_getElem hi, List.map_append]
  rfl
def AllSym (r : Int) (l : List Int) : Prop := ∀ x ∈ l, SymI r x
def rowOf (s : List Int) (t c : Int) : Int := if c % t = 0 ∧ cellI s 0 / 48 % 2 = 1 then 1 + c / t % (t - 1) else c % t
def rowI (s : List Int) (t : Int) : List Int := ((s.take 61).drop 1).map (rowOf s t)
theorem scr0 {s : List Int} {i : Nat} {x : Int} (h : ((s.take 61).drop 1)[i]? = some x) : s[(0 : Int).toNat]? = some (cellI s 0) := by
  have hi := (List.getElem?_eq_some_iff.mp h).1
  rw [List.length_drop, List.length_take] at hi
  exact cell_ix (by decide) (decide_eq_true (by omega))
theorem row_sym {r t : Int} {s : List Int} (g : RngI r) (ht : t = lastI r + 1) : AllSym r (rowI s t) := by
  intro x hx
  obtain ⟨c, _, rfl⟩ := List.mem_map.mp hx
  unfold rowOf
  have hl : 0 ≤ lastI r := Int.natCast_nonneg _
  have h15 := g.2.l15
  have hl2 : 15 ≤ lastI r := by unfold lastI; omega
  split
  · have h1 := Int.emod_nonneg (c / t) (show t - 1 ≠ 0 by omega)
    have h2 := Int.emod_lt_of_pos (c / t) (show 0 < t - 1 by omega)
    exact sym_of g (by omega) (by omega)
  · exact sym_mod g ht
theorem row_len {s : List Int} {t : Int} : (rowI s t).length ≤ 60 := by
  unfold rowI
  rw [List.length_map, List.length_drop, List.length_take]
  omega
def prodI (r : Int) (l : List Int) : Int := l.foldl (mulI r) 1
theorem fold_sym {r : Int} (g : RngI r) : ∀ {l : List Int} {a : Int}, SymI r a → SymI r (l.foldl (mulI r) a)
  | [], _, h => h
  | x :: l, a, h => fold_sym g (l := l) (a := mulI r a x) (mulI_sym g h)
theorem prod_sym {r : Int} (g : RngI r) {l : List Int} : SymI r (prodI r l) := fold_sym g (sym1 g)
theorem fold_mul {r : Int} (g : GoodI r) : ∀ {l : List Int} {a : Int}, SymI r a → AllSym r l → l.foldl (mulI r) a = mulI r a (prodI r l)
  | [], a, h, _ => (mulI_one h).symm
  | x :: l, a, h, hl => by
    have hx := hl x List.mem_cons_self
    have hl' : AllSym r l := fun y hy => hl y (List.mem_cons_of_mem _ hy)
    show l.foldl (mulI r) (mulI r a x) = mulI r a (l.foldl (mulI r) (mulI r 1 x))
    rw [fold_mul g (mulI_sym g.rng h) hl', mulI_one' g hx, fold_mul g hx hl', mulI_assoc g h hx (prod_sym g.rng)]
theorem prod_app {r : Int} (g : GoodI r) {l m : List Int} (hm : AllSym r m) : prodI r (l ++ m) = mulI r (prodI r l) (prodI r m) := by
  show (l ++ m).foldl (mulI r) 1 = _
  rw [List.foldl_append]
  exact fold_mul g (prod_sym g.rng) hm
theorem prod_cut {r : Int} (g : GoodI r) {l : List Int} (hl : AllSym r l) (k : Nat) : mulI r (prodI r (l.take k)) (prodI r (l.drop k)) = prodI r l := by
  rw [← prod_app g fun x hx => hl x (List.mem_of_mem_drop hx), List.take_append_drop]
def rprodI (r : Int) (l : List Int) : Int := l.foldl (fun a s => mulI r s a) 1
theorem rprod_eq {r : Int} (g : GoodI r) : ∀ {l : List Int}, AllSym r l → l.reverse.foldl (fun a s => mulI r s a) 1 = prodI r l ∧ SymI r (l.reverse.foldl (fun a s => mulI r s a) 1)
  | [], _ => ⟨rfl, sym1 g.rng⟩
  | x :: l, hl => by
    have hx := hl x List.mem_cons_self
    obtain ⟨h1, h2⟩ := rprod_eq g (l := l) fun y hy => hl y (List.mem_cons_of_mem _ hy)
    rw [List.reverse_cons, List.foldl_append]
    show mulI r x _ = l.foldl (mulI r) (mulI r 1 x) ∧ SymI r (mulI r x _)
    rw [h1, mulI_one' g hx, fold_mul g hx fun y hy => hl y (List.mem_cons_of_mem _ hy)]
    exact ⟨rfl, mulI_sym g.rng hx⟩
theorem rfold_sym {r : Int} (g : GoodI r) : ∀ {l : List Int} {a : Int}, SymI r a → AllSym r l → SymI r (l.foldl (fun a s => mulI r s a) a)
  | [], _, h, _ => h
  | x :: l, a, h, hl => rfold_sym g (l := l) (mulI_sym g.rng (hl x List.mem_cons_self)) fun y hy => hl y (List.mem_cons_of_mem _ hy)
theorem get_sym {r : Int} {l : List Int} (hl : AllSym r l) {i : Nat} {x : Int} (h : l[i]? = some x) : SymI r x := hl x (List.mem_of_getElem? h)
theorem take_sym {r : Int} {l : List Int} (hl : AllSym r l) (k : Nat) : AllSym r (l.take k) := fun x hx => hl x (List.mem_of_mem_take hx)
theorem drop_sym {r : Int} {l : List Int} (hl : AllSym r l) (k : Nat) : AllSym r (l.drop k) := fun x hx => hl x (List.mem_of_mem_drop hx)
theorem getD_ix {l : List Int} {i : Int} (h : i.toNat < l.length) : l[i.toNat]? = some (l.getD i.toNat 0) := by
  rw [List.getD_eq_getElem?_getD, List.getElem?_eq_getElem h]
  rfl
theorem rev_sym {r : Int} {l : List Int} (hl : AllSym r l) : AllSym r l.reverse := fun x hx => hl x (List.mem_reverse.mp hx)
theorem zero_both {m a b : Int} (h : (!decide (decide (m = 0) = (decide (a = 0) || decide (b = 0)))) = true) (z : m = 0 ↔ a = 0 ∨ b = 0) : False := by
  by_cases c1 : a = 0 <;> by_cases c2 : b = 0 <;> simp [c1, c2, z] at h
end MF

set_option Elab.async false
namespace MF
/-! MB: blocks, in plain numbers: symbols side by side. -/
section
variable {w : Nat}
def mapB (w : Nat) (g : Nat → Nat) : Nat → Nat → Nat
  | 0, _ => 0
  | m + 1, b => g (b % 2 ^ w) + 2 ^ w * mapB w g m (b / 2 ^ w)
theorem dm (x : Nat) : x = x % 2 ^ w + 2 ^ w * (x / 2 ^ w) := (Nat.mod_add_div x (2 ^ w)).symm
theorem dm_mod {a b : Nat} (h : a < 2 ^ w) : (a + 2 ^ w * b) % 2 ^ w = a := by rw [Nat.add_mul_mod_self_left, Nat.mod_eq_of_lt h]
theorem dm_div {a b : Nat} (h : a < 2 ^ w) : (a + 2 ^ w * b) / 2 ^ w = b := by rw [Nat.add_mul_div_left _ _ (Nat.two_pow_pos w), Nat.div_eq_of_lt h, Nat.zero_add]
theorem split_xor {a b c d : Nat} (ha : a < 2 ^ w) (hc : c < 2 ^ w) : (a + 2 ^ w * b) ^^^ (c + 2 ^ w * d) = (a ^^^ c) + 2 ^ w * (b ^^^ d) := by
  rw [dm (w := w) ((a + 2 ^ w * b) ^^^ (c + 2 ^ w * d)), Nat.xor_mod_two_pow, Nat.xor_div_two_pow, dm_mod ha, dm_mod hc, dm_div ha, dm_div hc]
theorem split_and {a b c d : Nat} (ha : a < 2 ^ w) (hc : c < 2 ^ w) : (a + 2 ^ w * b) &&& (c + 2 ^ w * d) = (a &&& c) + 2 ^ w * (b &&& d) := by
  rw [dm (w := w) ((a + 2 ^ w * b) &&& (c + 2 ^ w * d)), Nat.and_mod_two_pow, Nat.and_div_two_pow, dm_mod ha, dm_mod hc, dm_div ha, dm_div hc]
theorem mapB_lt {g : Nat → Nat} (hg : ∀ x, x < 2 ^ w → g x < 2 ^ w) : ∀ m b, mapB w g m b < 2 ^ (w * m)
  | 0, b => by simp [mapB]
  | m + 1, b => by
    have h1 := hg (b % 2 ^ w) (Nat.mod_lt _ (Nat.two_pow_pos w))
    have h2 := mapB_lt hg m (b / 2 ^ w)
    have e : 2 ^ (w * (m + 1)) = 2 ^ w * 2 ^ (w * m) := by rw [Nat.mul_succ, Nat.pow_add, Nat.mul_comm]
    show g (b % 2 ^ w) + 2 ^ w * mapB w g m (b / 2 ^ w) < _
    rw [e]
    have : 2 ^ w * (mapB w g m (b / 2 ^ w) + 1) ≤ 2 ^ w * 2 ^ (w * m) := Nat.mul_le_mul_left _ h2
    rw [Nat.mul_succ] at this
    omega
theorem mapB_xor {g h : Nat → Nat} (hg : ∀ x, x < 2 ^ w → g x < 2 ^ w) (hh : ∀ x, x < 2 ^ w → h x < 2 ^ w) : ∀ m b, mapB w g m b ^^^ mapB w h m b = mapB w (fun x => g x ^^^ h x) m b
  | 0, _ => Nat.xor_self 0
  | m + 1, b => by
    have hb := Nat.mod_lt b (Nat.two_pow_pos w)
    show (g (b % 2 ^ w) + 2 ^ w * mapB w g m (b / 2 ^ w)) ^^^ (h (b % 2 ^ w) + 2 ^ w * mapB w h m (b / 2 ^ w)) = _
    rw [split_xor (hg _ hb) (hh _ hb), mapB_xor hg hh m]
    rfl
theorem mapB_mapB {g h : Nat → Nat} (hg : ∀ x, x < 2 ^ w → g x < 2 ^ w) : ∀ m b, mapB w h m (mapB w g m b) = mapB w (fun x => h (g x)) m b
  | 0, _ => rfl
  | m + 1, b => by
    have hb := hg _ (Nat.mod_lt b (Nat.two_pow_pos w))
    show h ((g (b % 2 ^ w) + 2 ^ w * mapB w g m (b / 2 ^ w)) % 2 ^ w) + 2 ^ w * mapB w h m ((g (b % 2 ^ w) + 2 ^ w * mapB w g m (b / 2 ^ w)) / 2 ^ w) = _
    rw [dm_mod hb, dm_div hb, mapB_mapB hg m]
    rfl
theorem mapB_congr {g h : Nat → Nat} (e : ∀ x, x < 2 ^ w → g x = h x) : ∀ m b, mapB w g m b = mapB w h m b
  | 0, _ => rfl
  | m + 1, b => by
    show g (b % 2 ^ w) + _ = h (b % 2 ^ w) + _
    rw [e _ (Nat.mod_lt b (Nat.two_pow_pos w)), mapB_congr e m]
theorem mapB_id : ∀ m b, b < 2 ^ (w * m) → mapB w (fun x => x) m b = b
  | 0, b, h => by
    have : b = 0 := by simpa using h
    rw [this]; rfl
  | m + 1, b, h => by
    show b % 2 ^ w + 2 ^ w * mapB w (fun x => x) m (b / 2 ^ w) = b
    rw [mapB_id m, ← dm]
    refine Nat.div_lt_of_lt_mul ?_
    rw [← Nat.pow_add]
    rw [Nat.mul_succ, Nat.add_comm] at h
    exact h
theorem mapB_zero : ∀ m b, mapB w (fun _ => 0) m b = 0
  | 0, _ => rfl
  | m + 1, b => by
    show 0 + 2 ^ w * mapB w (fun _ => 0) m (b / 2 ^ w) = 0
    rw [mapB_zero m]; simp
theorem mapB_0 {g : Nat → Nat} (hg : g 0 = 0) : ∀ m, mapB w g m 0 = 0
  | 0 => rfl
  | m + 1 => by
    show g (0 % 2 ^ w) + 2 ^ w * mapB w g m (0 / 2 ^ w) = 0
    rw [Nat.zero_mod, Nat.zero_div, hg, mapB_0 hg m]
    simp
/-- additive maps -/
theorem mapB_add {g : Nat → Nat} (hg : ∀ x, x < 2 ^ w → g x < 2 ^ w) (ha : ∀ x y, x < 2 ^ w → y < 2 ^ w → g (x ^^^ y) = g x ^^^ g y) : ∀ m a b, mapB w g m (a ^^^ b) = mapB w g m a ^^^ mapB w g m b
  | 0, _, _ => (Nat.xor_self 0).symm
  | m + 1, a, b => by
    have h1 := Nat.mod_lt a (Nat.two_pow_pos w)
    have h2 := Nat.mod_lt b (Nat.two_pow_pos w)
    show g ((a ^^^ b) % 2 ^ w) + 2 ^ w * mapB w g m ((a ^^^ b) / 2 ^ w) = (g (a % 2 ^ w) + 2 ^ w * mapB w g m (a / 2 ^ w)) ^^^ (g (b % 2 ^ w) + 2 ^ w * mapB w g m (b / 2 ^ w))
    rw [Nat.xor_mod_two_pow, Nat.xor_div_two_pow, ha _ _ h1 h2, mapB_add hg ha m, split_xor (hg _ h1) (hg _ h2)]
/-! ### all symbols doubled at once -/
def geo (w : Nat) : Nat → Nat
  | 0 => 0
  | m + 1 => 1 + 2 ^ w * geo w m
theorem geo_eq (m : Nat) : (2 ^ w - 1) * geo w m = 2 ^ (w * m) - 1 := by
  induction m with
  | zero => simp [geo]
  | succ m ih =>
    show (2 ^ w - 1) * (1 + 2 ^ w * geo w m) = _
    have e : 2 ^ (w * (m + 1)) = 2 ^ w * 2 ^ (w * m) := by rw [Nat.mul_succ, Nat.pow_add, Nat.mul_comm]
    have h1 := Nat.two_pow_pos w
    have h2 := Nat.two_pow_pos (w * m)
    rw [Nat.mul_add, Nat.mul_one, Nat.mul_left_comm, ih, e, Nat.mul_sub, Nat.mul_one]
    have : 2 ^ w ≤ 2 ^ w * 2 ^ (w * m) := Nat.le_mul_of_pos_right _ h2
    omega
theorem geo_div (hw : 0 < w) (m : Nat) : (2 ^ (w * m) - 1) / (2 ^ w - 1) = geo w m := by
  have h : 2 ≤ 2 ^ w := by
    have := Nat.pow_le_pow_right (n := 2) (by omega) hw
    simpa using this
  rw [← geo_eq, Nat.mul_div_cancel_left _ (by omega)]
def high (w m b : Nat) : Nat := b / 2 ^ (w - 1) &&& geo w m
def trick (R m b : Nat) : Nat := ((b ^^^ (high (wd R) m b * 2 ^ (wd R - 1))) * 2) ^^^ (high (wd R) m b * (R ^^^ 2 ^ wd R))
theorem high_succ (hw : 0 < w) (m b : Nat) : high w (m + 1) b = b % 2 ^ w / 2 ^ (w - 1) + 2 ^ w * high w m (b / 2 ^ w) := by
  obtain ⟨v, rfl⟩ : ∃ v, w = v + 1 := ⟨w - 1, by omega⟩
  have hv := Nat.two_pow_pos v
  have hs := pow_s v
  unfold high
  rw [show v + 1 - 1 = v from rfl]
  show b / 2 ^ v &&& (1 + 2 ^ (v + 1) * geo (v + 1) m) = _
  have e : b / 2 ^ v = b / 2 ^ v % 2 ^ (v + 1) + 2 ^ (v + 1) * (b / 2 ^ v / 2 ^ (v + 1)) := dm _
  rw [e, split_and (Nat.mod_lt _ (Nat.two_pow_pos _)) (by omega), Nat.div_div_eq_div_mul, Nat.div_div_eq_div_mul, Nat.mul_comm (2 ^ v)]
  congr 1
  rw [Nat.and_one_is_mod, Nat.mod_mod_of_dvd _ (Nat.dvd_of_mod_eq_zero (by rw [hs]; exact Nat.mul_mod_right 2 _))]
  rw [hs, Nat.mul_comm 2, Nat.mod_mul_right_div_self]
theorem low_lt {R : Nat} (g : Rng R) : R ^^^ 2 ^ wd R < 2 ^ wd R := by
  have hs := pow_s (wd R)
  refine lt_of_bit (xor_lt g.lt (by have := Nat.two_pow_pos (wd R); omega)) ?_
  rw [Nat.testBit_xor, bit_of g.le g.lt, Nat.testBit_two_pow_self]
  rfl
theorem trick_ok {R : Nat} (g : Rng R) : ∀ m b, b < 2 ^ (wd R * m) → trick R m b = mapB (wd R) (dbl R) m b
  | 0, b, h => by
    have e : b = 0 := by simpa using h
    subst e
    unfold trick high
    simp [mapB]
  | m + 1, b, h => by
    have w4 := g.w4
    obtain ⟨v, hv⟩ : ∃ v, wd R = v + 1 := ⟨wd R - 1, by omega⟩
    have hs := pow_s v
    have hp := Nat.two_pow_pos v
    have hb := Nat.mod_lt b (Nat.two_pow_pos (wd R))
    have hd : b / 2 ^ wd R < 2 ^ (wd R * m) := by
      refine Nat.div_lt_of_lt_mul ?_
      rw [← Nat.pow_add]
      rw [Nat.mul_succ, Nat.add_comm] at h
      exact h
    have ih := trick_ok g m _ hd
    have hl := low_lt g
    show _ = dbl R (b % 2 ^ wd R) + 2 ^ wd R * mapB (wd R) (dbl R) m (b / 2 ^ wd R)
    rw [← ih]
    unfold trick
    rw [high_succ (by omega) m b]
    generalize hD : b / 2 ^ wd R = d
    generalize hH : high (wd R) m d = k
    have eb : b = b % 2 ^ wd R + 2 ^ wd R * d := by rw [← hD]; exact dm b
    generalize hM : b % 2 ^ wd R = s at *
    have ht : s / 2 ^ (wd R - 1) = 0 ∨ s / 2 ^ (wd R - 1) = 1 := by
      rw [hv, show v + 1 - 1 = v from rfl]
      rw [hv] at hb
      have h3 : s / 2 ^ v < 2 := Nat.div_lt_of_lt_mul (by omega)
      generalize s / 2 ^ v = q at h3 ⊢
      omega
    generalize hT : s / 2 ^ (wd R - 1) = t at *
    have hw1 : wd R - 1 = v := by omega
    have h1 : (t + 2 ^ wd R * k) * 2 ^ (wd R - 1) = t * 2 ^ (wd R - 1) + 2 ^ wd R * (k * 2 ^ (wd R - 1)) := by rw [Nat.add_mul, Nat.mul_assoc]
    have h2 : (t + 2 ^ wd R * k) * (R ^^^ 2 ^ wd R) = t * (R ^^^ 2 ^ wd R) + 2 ^ wd R * (k * (R ^^^ 2 ^ wd R)) := by rw [Nat.add_mul, Nat.mul_assoc]
    have ht2 : t * 2 ^ (wd R - 1) < 2 ^ wd R := by
      rw [hw1, hv]
      rcases ht with rfl | rfl <;> omega
    have ht3 : t * (R ^^^ 2 ^ wd R) < 2 ^ wd R := by rcases ht with rfl | rfl <;> omega
    have ec : (s ^^^ t * 2 ^ (wd R - 1)) < 2 ^ v := by
      rw [hw1]
      rw [hw1] at hT
      rw [hv] at hb
      rcases ht with rfl | rfl
      · rw [Nat.zero_mul, Nat.xor_zero]
        exact (Nat.div_eq_zero_iff_lt hp).mp hT
      · rw [Nat.one_mul]
        have hge : 2 ^ v ≤ s := by
          have := Nat.div_mul_le_self s (2 ^ v)
          rw [hT] at this
          omega
        refine lt_of_bit (xor_lt hb (by omega)) ?_
        rw [Nat.testBit_xor, bit_of hge hb, Nat.testBit_two_pow_self]
        rfl
    have e2 : 2 ^ wd R = 2 * 2 ^ v := by rw [hv, hs]
    rw [eb, h1, split_xor hb ht2, h2, Nat.add_mul, Nat.mul_assoc, split_xor (by omega) ht3]
    congr 1
    rw [dbl_eq hb]
    have hbit : (2 * s).testBit (wd R) = decide (t = 1) := by
      rw [hv, Nat.testBit_succ, show 2 * s / 2 = s by omega]
      rw [hw1] at hT
      rw [hv] at hb
      rcases ht with rfl | rfl
      · rw [Nat.testBit_lt_two_pow ((Nat.div_eq_zero_iff_lt hp).mp hT)]
        rfl
      · rw [bit_of _ hb]
        · rfl
        · have := Nat.div_mul_le_self s (2 ^ v)
          rw [hT] at this
          omega
    rw [hbit, hw1]
    rcases ht with rfl | rfl
    · simp [Nat.mul_comm]
    · rw [Nat.one_mul, Nat.one_mul, Nat.mul_comm _ 2, xor_mul2, ← hs, ← hv, Nat.xor_assoc]
      congr 1
      rw [← Nat.xor_assoc, Nat.xor_comm _ R, Nat.xor_assoc, Nat.xor_self, Nat.xor_zero]
      simp
end
end MF

set_option Elab.async false
namespace MF
open PySem
def tabI (r s : Int) : List Int := (VC.rangeL 0 (lastI r + 1)).map (mulI r s)
theorem tab_len {r s : Int} : (tabI r s).length = (lastI r + 1).toNat := by
  unfold tabI
  rw [List.length_map, VC.rangeL_len, Int.sub_zero]
theorem tab_get {r s : Int} {i : Nat} (h : (i : Int) < lastI r + 1) : (tabI r s)[i]? = some (mulI r s i) := by
  unfold tabI
  rw [List.getElem?_map, VC.rangeL0_iff.mpr ⟨h, rfl⟩]
  rfl
theorem tab_iff {r s x : Int} {i : Nat} (h : (tabI r s)[i]? = some x) : (i : Int) < lastI r + 1 ∧ x = mulI r s i := by
  have hi := (List.getElem?_eq_some_iff.mp h).1
  rw [tab_len] at hi
  have hi' : (i : Int) < lastI r + 1 := by omega
  rw [tab_get hi'] at h
  exact ⟨hi', (Option.some.inj h).symm⟩
theorem sym_nat {r : Int} (g : RngI r) {i : Nat} (h : (i : Int) < lastI r + 1) : SymI r i := sym_of g (Int.natCast_nonneg _) (by omega)
theorem mul_cancel {r s x y : Int} (g : GoodI r) (hs : SymI r s) (hx : SymI r x) (hy : SymI r y) (h0 : s ≠ 0) (h : mulI r s x = mulI r s y) : x = y := by
  have e : mulI r s (Builtin.bitXor x y) = 0 := by
    have p : 0 ≤ mulI r s y := Int.natCast_nonneg _
    rw [mulI_addR hx.1 hy.1, h, xorI p p, Nat.xor_self]
    rfl
  rcases (mulI_eq0 g hs (xor_sym g.rng hx hy)).mp e with q | q
  · exact absurd q h0
  · rw [xorI hx.1 hy.1] at q
    have := xor_eq_zero (a := x.toNat) (b := y.toNat) (by omega)
    have := hx.1
    have := hy.1
    omega
structure OnceInv (r s : Int) (i : Nat) (seen : List Bool) : Prop where
  len : seen.length = (lastI r + 1).toNat
  got : s ≠ 0 → ∀ j : Nat, i ≤ j → (j : Int) < lastI r + 1 → seen[(mulI r s j).toNat]? = some false
theorem once0 {r s : Int} {seen : List Bool} (g : RngI r) (hs : SymI r s) (h : seen = List.replicate (lastI r + 1).toNat false) : OnceInv r s 0 seen := by
  refine ⟨by rw [h, List.length_replicate], fun _ j _ _ => ?_⟩
  have z := (mulI_sym g (y := j) hs).le g
  have z1 := (mulI_sym g (y := j) hs).1
  rw [h, List.getElem?_replicate, if_pos (by omega)]
theorem OnceInv.step {r s x : Int} {i : Nat} {seen : List Bool} (h : OnceInv r s i seen) (g : GoodI r) (hs : SymI r s) (hx : (tabI r s)[i]? = some x) : OnceInv r s (i + 1) (seen.set x.toNat true) := by
  obtain ⟨h1, h2⟩ := tab_iff hx
  refine ⟨by rw [List.length_set]; exact h.len, fun h0 j hj hl => ?_⟩
  rw [List.getElem?_set_ne]
  · exact h.got h0 j (by omega) hl
  · intro e
    have a := (mulI_sym g.rng (y := i) hs).1
    have b := (mulI_sym g.rng (y := j) hs).1
    have := mul_cancel g hs (sym_nat g.rng h1) (sym_nat g.rng hl) h0 (by omega)
    omega
theorem tab_zero {r s x : Int} {i : Nat} (hx : (tabI r s)[i]? = some x) (h : s = 0) : x = 0 := by
  rw [(tab_iff hx).2, h]
  exact (mulI_zero (by simp)).symm
theorem tab_sym {r s x : Int} {i : Nat} (g : RngI r) (hs : SymI r s) (hx : (tabI r s)[i]? = some x) : 0 ≤ x ∧ x < lastI r + 1 := by
  rw [(tab_iff hx).2]
  exact ⟨(mulI_sym g hs).1, by have := (mulI_sym g (y := i) hs).le g; omega⟩
theorem tab_getI {r s p : Int} (g : RngI r) (hp : SymI r p) : (tabI r s)[p.toNat]? = some (mulI r s p) := by
  have h0 := hp.1
  have h1 := hp.le g
  have := tab_get (r := r) (s := s) (i := p.toNat) (by omega)
  rwa [show ((p.toNat : Nat) : Int) = p by omega] at this
end MF

set_option Elab.async false
namespace MF
open PySem
/-! MBI: blocks in ints, as the program reckons them. -/
def limI (r m : Int) : Int := ((2 ^ (wd r.toNat * m.toNat) : Nat) : Int)
def onesI (r m : Int) : Int := (geo (wd r.toNat) m.toNat : Int)
def BlkI (r m b : Int) : Prop := 0 ≤ b ∧ b.toNat < 2 ^ (wd r.toNat * m.toNat)
def ManyI (m : Int) : Prop := 1 ≤ m ∧ m ≤ 16
def mapI (r m : Int) (g : Nat → Nat) (b : Int) : Int := (mapB (wd r.toNat) g m.toNat b.toNat : Int)
def dblB (r m b : Int) : Int := mapI r m (dbl r.toNat) b
def sclI (r m f b : Int) : Int := mapI r m (fun s => mul r.toNat s f.toNat) b
def sumI (r m : Int) (fs bs : List Int) : Int := (fs.zip bs).foldl (fun a p => Builtin.bitXor a (sclI r m p.1 p.2)) 0
def symsI (r m b : Int) : List Int := (VC.rangeL 0 m).map fun k => ((b.toNat / 2 ^ (wd r.toNat * k.toNat) % 2 ^ wd r.toNat : Nat) : Int)
theorem wm_le {r m : Int} (g : RngI r) (h : ManyI m) : wd r.toNat * m.toNat ≤ 128 := by
  have h1 := g.2.w8
  have h2 : m.toNat ≤ 16 := by have := h.2; omega
  have : wd r.toNat * m.toNat ≤ 8 * 16 := Nat.mul_le_mul h1 h2
  omega
theorem blk_lt {r m b : Int} (g : RngI r) (h : ManyI m) (hb : BlkI r m b) : b.natAbs < 2 ^ 128 := by
  have := Nat.lt_of_lt_of_le hb.2 (Nat.pow_le_pow_right (by omega) (wm_le g h))
  have := hb.1
  omega
theorem lim_eq {r m : Int} (h : 0 ≤ m) : (1 : Int) * 2 ^ ((wd r.toNat : Int) * m).toNat = limI r m := by
  have e : ((wd r.toNat : Int) * m).toNat = wd r.toNat * m.toNat := by
    obtain ⟨k, rfl⟩ := Int.eq_ofNat_of_zero_le h
    show (((wd r.toNat : Nat) : Int) * (k : Int)).toNat = _
    rw [← Int.natCast_mul, Int.toNat_natCast]
    rfl
  rw [e, Int.one_mul]
  unfold limI
  simp
theorem ones_eq {r m : Int} (g : RngI r) : (limI r m - 1) / lastI r = onesI r m := by
  have hp := Nat.two_pow_pos (wd r.toNat * m.toNat)
  have e : limI r m - 1 = ((2 ^ (wd r.toNat * m.toNat) - 1 : Nat) : Int) := by unfold limI; omega
  rw [e]
  unfold lastI onesI last
  rw [← Int.natCast_ediv]
  congr 1
  exact geo_div (by have := g.2.w4; omega) _
theorem map_blk {r m b : Int} {g : Nat → Nat} (hg : ∀ x, x < 2 ^ wd r.toNat → g x < 2 ^ wd r.toNat) : BlkI r m (mapI r m g b) := ⟨Int.natCast_nonneg _, by unfold mapI; rw [Int.toNat_natCast]; exact mapB_lt hg _ _⟩
theorem dblB_blk {r m b : Int} (g : RngI r) : BlkI r m (dblB r m b) := map_blk fun _ h => dbl_lt g.2 h
theorem scl_blk {r m f b : Int} (g : RngI r) : BlkI r m (sclI r m f b) := map_blk fun _ h => mul_lt g.2 _ h
theorem andI {x y : Int} (hx : 0 ≤ x) (hy : 0 ≤ y) : Builtin.bitAnd x y = ((x.toNat &&& y.toNat : Nat) : Int) := by
  have h1 := PyProof.Rows.bitXor_and x y
  rw [xorI hx hy] at h1
  have h2 := Bits.nat_xor_add_and x.toNat y.toNat
  omega
theorem trickI {r m b hi lo : Int} (g : RngI r) (hb : BlkI r m b) (eh : hi = Builtin.bitAnd (b / 2 ^ ((wd r.toNat : Int) - 1).toNat) (onesI r m)) (el : lo = Builtin.bitXor r (lastI r + 1)) :
    Builtin.bitXor (Builtin.bitXor b (hi * 2 ^ ((wd r.toNat : Int) - 1).toNat) * 2 ^ (1 : Int).toNat) (hi * lo) = dblB r m b := by
  have w4 := g.2.w4
  have e1 : ((wd r.toNat : Int) - 1).toNat = wd r.toNat - 1 := by skip; omega
  have b0 := hb.1
  have ehi : hi = (high (wd r.toNat) m.toNat b.toNat : Int) := by
    rw [eh, e1, shrI b0]
    show Builtin.bitAnd _ ((geo (wd r.toNat) m.toNat : Nat) : Int) = _
    rw [andI (Int.natCast_nonneg _) (Int.natCast_nonneg _), Int.toNat_natCast]
    rfl
  have elo : lo = ((r.toNat ^^^ 2 ^ wd r.toNat : Nat) : Int) := by
    have h1 := last1 g.2
    rw [el, xorI g.1 (by unfold lastI; omega)]
    congr 2
    try unfold lastI
    try omega
  have em : hi * 2 ^ (wd r.toNat - 1) = ((high (wd r.toNat) m.toNat b.toNat * 2 ^ (wd r.toNat - 1) : Nat) : Int) := by rw [ehi, Int.natCast_mul]; simp
  have em2 : hi * lo = ((high (wd r.toNat) m.toNat b.toNat * (r.toNat ^^^ 2 ^ wd r.toNat) : Nat) : Int) := by rw [ehi, elo, Int.natCast_mul]
  rw [e1, em, xorI b0 (Int.natCast_nonneg _), Int.toNat_natCast, em2]
  have e3 : ((b.toNat ^^^ high (wd r.toNat) m.toNat b.toNat * 2 ^ (wd r.toNat - 1) : Nat) : Int) * 2 ^ (1 : Int).toNat = (((b.toNat ^^^ high (wd r.toNat) m.toNat b.toNat * 2 ^ (wd r.toNat - 1)) * 2 : Nat) : Int) := by
    rw [Int.natCast_mul]; rfl
  rw [e3, xorI (Int.natCast_nonneg _) (Int.natCast_nonneg _), Int.toNat_natCast, Int.toNat_natCast]
  unfold dblB mapI
  congr 1
  exact trick_ok g.2 m.toNat b.toNat hb.2
theorem high_lt {r m b hi : Int} (g : RngI r) (h : ManyI m) (hb : BlkI r m b) (eh : hi = Builtin.bitAnd (b / 2 ^ ((wd r.toNat : Int) - 1).toNat) (onesI r m)) : hi.natAbs < 2 ^ 128 ∧ 0 ≤ hi := by
  have e1 : ((wd r.toNat : Int) - 1).toNat = wd r.toNat - 1 := by have := g.2.w4; omega
  have b0 := hb.1
  have ehi : hi = (high (wd r.toNat) m.toNat b.toNat : Int) := by
    rw [eh, e1, shrI b0]
    show Builtin.bitAnd _ ((geo (wd r.toNat) m.toNat : Nat) : Int) = _
    rw [andI (Int.natCast_nonneg _) (Int.natCast_nonneg _), Int.toNat_natCast]
    rfl
  have h1 : high (wd r.toNat) m.toNat b.toNat ≤ b.toNat := Nat.le_trans Nat.and_le_left (Nat.div_le_self _ _)
  have h2 := blk_lt g h hb
  rw [ehi]
  omega
theorem low_ltI {r lo : Int} (g : RngI r) (el : lo = Builtin.bitXor r (lastI r + 1)) : 0 ≤ lo ∧ lo < 512 := by
  have h1 := last1 g.2
  have h2 := low_lt g.2
  have h3 := g.2.p256
  rw [el, xorI g.1 (by unfold lastI; omega)]
  have e : (lastI r + 1).toNat = 2 ^ wd r.toNat := by unfold lastI; omega
  rw [e]
  omega
/-- what stands between two turns of scaled -/
structure SclInv (r m f0 b0 found block factor : Int) : Prop where
  p0 : 0 ≤ found
  q0 : 0 ≤ factor
  q1 : factor < 512
  blk : BlkI r m block
  eq : found.toNat ^^^ mapB (wd r.toNat) (fun s => pd r.toNat 9 s factor.toNat) m.toNat block.toNat = mapB (wd r.toNat) (fun s => mul r.toNat s f0.toNat) m.toNat b0.toNat
theorem scl0 {r m f b found : Int} (g : RngI r) (hf : SymI r f) (hb : BlkI r m b) (h : found = 0) : SclInv r m f b found b f := ⟨by omega, hf.1, hf.lt512 g, hb, by subst h; exact Nat.zero_xor _⟩
theorem SclInv.step {r m f0 b0 found found' block block' factor factor' : Int} {c : Bool} (h : SclInv r m f0 b0 found block factor) (g : RngI r) (hc : decide (0 < factor) = true) (eb : c = decide (Builtin.bitAnd factor 1 = 1)) (ef : found' = bif c then Builtin.bitXor found block else found)
    (e1 : block' = dblB r m block) (e2 : factor' = factor / 2 ^ (1 : Int).toNat) : SclInv r m f0 b0 found' block' factor' ∧ factor'.toNat < factor.toNat := by
  have hc := of_decide_eq_true hc
  have q0 := h.q0
  have q1 := h.q1
  have e3 : factor' = factor / 2 := e2
  rw [bit1] at eb
  refine ⟨⟨?_, by omega, by omega, by rw [e1]; exact dblB_blk g, ?_⟩, by omega⟩
  · rw [ef]
    cases c with
    | false => exact h.p0
    | true => exact Bits.bitXor_nonneg h.p0 h.blk.1
  · rw [← h.eq, e1]
    unfold dblB mapI
    rw [Int.toNat_natCast, mapB_mapB (fun _ h => dbl_lt g.2 h), show factor'.toNat = factor.toNat / 2 by omega]
    have hp : ∀ x, x < 2 ^ wd r.toNat → pd r.toNat 9 x factor.toNat = (if factor.toNat % 2 = 1 then x else 0) ^^^ pd r.toNat 9 (dbl r.toNat x) (factor.toNat / 2) := fun x _ => pd_half (by omega)
    rw [mapB_congr hp m.toNat block.toNat, ← mapB_xor (w := wd r.toNat) (g := fun x => if factor.toNat % 2 = 1 then x else 0) (h := fun x => pd r.toNat 9 (dbl r.toNat x) (factor.toNat / 2)) (fun x hx => by split; exact hx; exact Nat.two_pow_pos _) (fun x hx => pd_lt g.2 _ _ (dbl_lt g.2 hx)), ← Nat.xor_assoc]
    congr 1
    rw [ef, eb]
    by_cases q : factor % 2 = 1
    · rw [decide_eq_true q]
      have q' : factor.toNat % 2 = 1 := by omega
      simp only [q', if_true]
      rw [mapB_id _ _ h.blk.2]
      show (Builtin.bitXor found block).toNat = _
      rw [xorI h.p0 h.blk.1, Int.toNat_natCast]
    · rw [decide_eq_false q]
      have q' : ¬ factor.toNat % 2 = 1 := by omega
      simp only [q', if_false]
      rw [mapB_zero, Nat.xor_zero]
      rfl
theorem SclInv.done {r m f0 b0 found block factor : Int} (h : SclInv r m f0 b0 found block factor) (hc : decide (0 < factor) = false) : found = sclI r m f0 b0 := by
  have hc := of_decide_eq_false hc
  have q0 := h.q0
  have e := h.eq
  rw [show factor.toNat = 0 by omega] at e
  have hz : ∀ x, x < 2 ^ wd r.toNat → pd r.toNat 9 x 0 = 0 := fun x _ => pd_zero 9 x
  rw [mapB_congr hz, mapB_zero, Nat.xor_zero] at e
  unfold sclI mapI
  rw [← e]
  have := h.p0
  omega
theorem sum_blk {r m : Int} (g : RngI r) : ∀ (l : List (Int × Int)) {a : Int}, BlkI r m a → BlkI r m (l.foldl (fun a p => Builtin.bitXor a (sclI r m p.1 p.2)) a)
  | [], _, h => h
  | p :: l, a, h => by
    refine sum_blk g l (a := Builtin.bitXor a (sclI r m p.1 p.2)) ?_
    have h2 := scl_blk (m := m) (f := p.1) (b := p.2) g
    rw [xorI h.1 h2.1]
    exact ⟨Int.natCast_nonneg _, by rw [Int.toNat_natCast]; exact xor_lt h.2 h2.2⟩
theorem zero_blk {r m : Int} : BlkI r m 0 := ⟨by decide, Nat.two_pow_pos _⟩
/-- symbols -/
theorem sym_step {r b k : Int} (g : RngI r) (hb : 0 ≤ b) (hk : 0 ≤ k) : Builtin.bitAnd (b / 2 ^ ((wd r.toNat : Int) * k).toNat) (lastI r) = ((b.toNat / 2 ^ (wd r.toNat * k.toNat) % 2 ^ wd r.toNat : Nat) : Int) := by
  have e : ((wd r.toNat : Int) * k).toNat = wd r.toNat * k.toNat := by
    obtain ⟨j, rfl⟩ := Int.eq_ofNat_of_zero_le hk
    show (((wd r.toNat : Nat) : Int) * (j : Int)).toNat = _
    rw [← Int.natCast_mul, Int.toNat_natCast]
    rfl
  have e2 : lastI r = 2 ^ wd r.toNat - 1 := by
    have h1 := last1 g.2
    unfold lastI
    have : ((last r.toNat + 1 : Nat) : Int) = ((2 ^ wd r.toNat : Nat) : Int) := by rw [h1]
    simp at this
    omega
  rw [e, shrI hb, e2, Bits.bitAnd_mask _ (Int.natCast_nonneg _)]
  simp
/-! ### a block of a list of symbols -/
def joinI (r : Int) (l : List Int) : Int := l.foldr (fun s a => a * (lastI r + 1) + s) 0
theorem join_map {r : Int} (g : RngI r) {h : Nat → Nat} (hh : ∀ x, x < 2 ^ wd r.toNat → h x < 2 ^ wd r.toNat) : ∀ {l : List Int}, AllSym r l → joinI r l = (joinI r l).toNat ∧ mapB (wd r.toNat) h l.length (joinI r l).toNat = (joinI r (l.map fun s => (h s.toNat : Int))).toNat ∧ joinI r (l.map fun s => (h s.toNat : Int)) = (joinI r (l.map fun s => (h s.toNat : Int))).toNat ∧ (joinI r l).toNat < 2 ^ (wd r.toNat * l.length)
  | [], _ => ⟨rfl, rfl, rfl, by simp [joinI]⟩
  | s :: l, hl => by
    have hs := hl s List.mem_cons_self
    obtain ⟨h1, h2, h3, h4⟩ := join_map g hh (l := l) fun y hy => hl y (List.mem_cons_of_mem _ hy)
    have hl1 := last1 g.2
    have e1 : joinI r (s :: l) = ((s.toNat + 2 ^ wd r.toNat * (joinI r l).toNat : Nat) : Int) := by
      show joinI r l * (lastI r + 1) + s = _
      have e : lastI r + 1 = ((2 ^ wd r.toNat : Nat) : Int) := by unfold lastI; omega
      rw [e, h1, Int.natCast_add, Int.natCast_mul, Int.toNat_of_nonneg hs.1, Int.toNat_natCast]
      rw [Int.mul_comm, Int.add_comm]
    have e2 : joinI r ((s :: l).map fun s => (h s.toNat : Int)) = ((h s.toNat + 2 ^ wd r.toNat * (joinI r (l.map fun s => (h s.toNat : Int))).toNat : Nat) : Int) := by
      show joinI r (l.map fun s => (h s.toNat : Int)) * (lastI r + 1) + (h s.toNat : Int) = _
      have e : lastI r + 1 = ((2 ^ wd r.toNat : Nat) : Int) := by unfold lastI; omega
      rw [e, h3, Int.natCast_add, Int.natCast_mul, Int.toNat_natCast]
      rw [Int.mul_comm, Int.add_comm]
    refine ⟨by rw [e1, Int.toNat_natCast], ?_, by rw [e2, Int.toNat_natCast], ?_⟩
    · rw [e1, e2, Int.toNat_natCast, Int.toNat_natCast]
      show h ((s.toNat + 2 ^ wd r.toNat * (joinI r l).toNat) % 2 ^ wd r.toNat) + 2 ^ wd r.toNat * mapB (wd r.toNat) h l.length ((s.toNat + 2 ^ wd r.toNat * (joinI r l).toNat) / 2 ^ wd r.toNat) = _
      rw [dm_mod hs.2, dm_div hs.2, h2]
    · rw [e1, Int.toNat_natCast, List.length_cons, Nat.mul_succ, Nat.add_comm (wd r.toNat * l.length), Nat.pow_add]
      have : 2 ^ wd r.toNat * ((joinI r l).toNat + 1) ≤ 2 ^ wd r.toNat * 2 ^ (wd r.toNat * l.length) := Nat.mul_le_mul_left _ h4
      rw [Nat.mul_succ] at this
      have := hs.2
      omega
theorem join_blk {r m : Int} (g : RngI r) {l : List Int} (hl : AllSym r l) (hm : m = l.length) : BlkI r m (joinI r l) := by
  obtain ⟨h1, _, _, h4⟩ := join_map g (h := fun x => x) (fun _ h => h) hl
  refine ⟨by rw [h1]; exact Int.natCast_nonneg _, ?_⟩
  rw [hm, Int.toNat_natCast]
  exact h4
theorem map_join {r m : Int} (g : RngI r) {h : Nat → Nat} (hh : ∀ x, x < 2 ^ wd r.toNat → h x < 2 ^ wd r.toNat) {l : List Int} (hl : AllSym r l) (hm : m = l.length) : mapI r m h (joinI r l) = joinI r (l.map fun s => (h s.toNat : Int)) := by
  obtain ⟨_, h2, h3, _⟩ := join_map g hh hl
  unfold mapI
  rw [hm, Int.toNat_natCast, h2, ← h3]
theorem shl_xor {r m b hi : Int} (g : RngI r) (h : ManyI m) (hb : BlkI r m b) (eh : hi = Builtin.bitAnd (b / 2 ^ ((wd r.toNat : Int) - 1).toNat) (onesI r m)) : L2.CShl (Builtin.bitXor b (hi * 2 ^ ((wd r.toNat : Int) - 1).toNat)) 1 := by
  have h1 := high_lt g h hb eh
  have h2 := blk_lt g h hb
  have b0 := hb.1
  have w8 := g.2.w8
  have e1 : ((wd r.toNat : Int) - 1).toNat ≤ 7 := by omega
  have p1 : (2 : Int) ^ ((wd r.toNat : Int) - 1).toNat = ((2 ^ ((wd r.toNat : Int) - 1).toNat : Nat) : Int) := by simp
  have p2 : 2 ^ ((wd r.toNat : Int) - 1).toNat ≤ 2 ^ 7 := Nat.pow_le_pow_right (by omega) e1
  have e2 : hi * 2 ^ ((wd r.toNat : Int) - 1).toNat = ((hi.toNat * 2 ^ ((wd r.toNat : Int) - 1).toNat : Nat) : Int) := by rw [p1, Int.natCast_mul, Int.toNat_of_nonneg h1.2]
  have h3 : hi.toNat * 2 ^ ((wd r.toNat : Int) - 1).toNat < 2 ^ 135 := by
    have : hi.toNat * 2 ^ ((wd r.toNat : Int) - 1).toNat ≤ hi.toNat * 2 ^ 7 := Nat.mul_le_mul_left _ p2
    omega
  rw [e2]
  refine VC.shlW 135 ?_ (by decide) (by decide)
  rw [xorI b0 (Int.natCast_nonneg _), Int.toNat_natCast, Int.natAbs_natCast]
  exact xor_lt (by omega) h3
def joinT (t : Int) (l : List Int) : Int := l.foldr (fun s a => a * t + s) 0
theorem joinT_rev {t : Int} {l : List Int} : l.reverse.foldl (fun a s => a * t + s) 0 = joinT t l := by
  rw [List.foldl_reverse]
  rfl
end MF

set_option Elab.async false
namespace MF
open PySem
theorem scl_join {r m f : Int} (g : RngI r) {l : List Int} (hl : AllSym r l) (hm : m = l.length) : sclI r m f (joinI r l) = joinI r (l.map fun s => mulI r s f) := map_join g (fun _ h => mul_lt g.2 _ h) hl hm
theorem dbl_join {r m : Int} (g : RngI r) {l : List Int} (hl : AllSym r l) (hm : m = l.length) : dblB r m (joinI r l) = joinI r (l.map fun s => dblI r s) := map_join g (fun _ h => dbl_lt g.2 h) hl hm
theorem join_two {r m : Int} (g : GoodI r) {l : List Int} (hl : AllSym r l) (hm : m = l.length) : dblB r m (joinI r l) = joinI r (l.map fun s => mulI r s 2) := by
  rw [dbl_join g.rng hl hm]
  congr 1
  exact List.map_congr_left fun s hs => (mulI_two g (hl s hs)).symm
theorem scl_sym {r m f b : Int} (g : RngI r) (hm : 1 ≤ m) (hb : SymI r b) : sclI r m f b = mulI r b f := by
  obtain ⟨k, hk⟩ : ∃ k, m.toNat = k + 1 := ⟨m.toNat - 1, by omega⟩
  unfold sclI mapI mulI
  rw [hk]
  show ((mul r.toNat (b.toNat % 2 ^ wd r.toNat) f.toNat + 2 ^ wd r.toNat * mapB (wd r.toNat) _ k (b.toNat / 2 ^ wd r.toNat) : Nat) : Int) = _
  rw [Nat.mod_eq_of_lt hb.2, Nat.div_eq_of_lt hb.2, mapB_0 (zero_mul f.toNat) k]
  rfl
theorem sym_blk {r m b : Int} (hm : 1 ≤ m) (hb : SymI r b) : BlkI r m b := by
  refine ⟨hb.1, Nat.lt_of_lt_of_le hb.2 (Nat.pow_le_pow_right (by omega) ?_)⟩
  exact Nat.le_mul_of_pos_right _ (by omega)
theorem half_sym {r t : Int} (g : RngI r) (ht : t = lastI r + 1) : SymI r (t / 2) := by
  have : 0 ≤ lastI r := Int.natCast_nonneg _
  have := g.2.l15
  exact sym_of g (by omega) (by unfold lastI at *; omega)
theorem half_two {r t : Int} (g : GoodI r) (ht : t = lastI r + 1) : mulI r (t / 2) 2 = Builtin.bitXor t r := by
  have h1 := last1 g.2.rng
  have w4 := g.2.rng.w4
  obtain ⟨v, hv⟩ : ∃ v, wd r.toNat = v + 1 := ⟨wd r.toNat - 1, by omega⟩
  have hs := pow_s v
  rw [← hv] at hs
  have e1 : t.toNat = 2 ^ wd r.toNat := by rw [ht]; unfold lastI; omega
  have e2 : (t / 2).toNat = 2 ^ v := by omega
  rw [mulI_two g (half_sym g.rng ht), xorI (by rw [ht]; unfold lastI; omega) g.1, e1]
  unfold dblI dbl
  rw [e2, if_neg (by omega), ← hs]
def symBy (s : List Int) (t k : Int) : Int := if k + 3 < s.length then cellI s (k + 3) % t else ((cellI s (k % 5) % 2147483629 + 48271) * (7919 * k + 104729) % 2147483647) ^ 5 % 2147483629 / 16 % 65537 % t
def symsBy (s : List Int) (m t : Int) : List Int := if cellI s 1 / 16 % 6 = 1 then List.replicate m.toNat (t - 1) else (VC.rangeL 0 m).map (symBy s t)
theorem symsBy_len {s : List Int} {m t : Int} : (symsBy s m t).length = m.toNat := by
  unfold symsBy
  split
  · rw [List.length_replicate]
  · rw [List.length_map, VC.rangeL_len, Int.sub_zero]
theorem symsBy_sym {r t m : Int} {s : List Int} (g : RngI r) (ht : t = lastI r + 1) : AllSym r (symsBy s m t) := by
  intro x hx
  have hl : 0 ≤ lastI r := Int.natCast_nonneg _
  unfold symsBy at hx
  split at hx
  · rw [(List.mem_replicate.mp hx).2]
    exact sym_of g (by omega) (by omega)
  · obtain ⟨k, _, rfl⟩ := List.mem_map.mp hx
    unfold symBy
    split
    · exact sym_mod g ht
    · exact sym_mod g ht
theorem seven_sym {r a b c x t : Int} {i : Nat} (g : RngI r) (ht : t = lastI r + 1) (h : ([a, b, 0, 1, 2, t - 1, c] : List Int)[i]? = some x) (ha : SymI r a) (hb : SymI r b) (hc : SymI r c) : SymI r x := by
  have hl : 0 ≤ lastI r := Int.natCast_nonneg _
  match i, h with
  | 0, h => cases h; exact ha
  | 1, h => cases h; exact hb
  | 2, h => cases h; exact sym0
  | 3, h => cases h; exact sym1 g
  | 4, h => cases h; exact sym2 g
  | 5, h => cases h; exact sym_of g (by omega) (by omega)
  | 6, h => cases h; exact hc
theorem many_of (c : Int) : ManyI (1 + c % 16) := ⟨by omega, by omega⟩
end MF

set_option Elab.async false
namespace MF
open PySem
theorem mapB_digit {w : Nat} {g : Nat → Nat} (hg : ∀ x, x < 2 ^ w → g x < 2 ^ w) : ∀ m k b, k < m → mapB w g m b / 2 ^ (w * k) % 2 ^ w = g (b / 2 ^ (w * k) % 2 ^ w)
  | 0, _, _, h => absurd h (Nat.not_lt_zero _)
  | m + 1, 0, b, _ => by
    have hb := hg _ (Nat.mod_lt b (Nat.two_pow_pos w))
    show (g (b % 2 ^ w) + 2 ^ w * mapB w g m (b / 2 ^ w)) / 2 ^ (w * 0) % 2 ^ w = g (b / 2 ^ (w * 0) % 2 ^ w)
    rw [Nat.mul_zero, Nat.pow_zero, Nat.div_one, Nat.div_one, dm_mod hb]
  | m + 1, k + 1, b, h => by
    have hb := hg _ (Nat.mod_lt b (Nat.two_pow_pos w))
    show (g (b % 2 ^ w) + 2 ^ w * mapB w g m (b / 2 ^ w)) / 2 ^ (w * (k + 1)) % 2 ^ w = g (b / 2 ^ (w * (k + 1)) % 2 ^ w)
    have e : 2 ^ (w * (k + 1)) = 2 ^ w * 2 ^ (w * k) := by rw [Nat.mul_succ, Nat.add_comm, Nat.pow_add]
    rw [e, ← Nat.div_div_eq_div_mul, ← Nat.div_div_eq_div_mul, dm_div hb, mapB_digit hg m k (b / 2 ^ w) (by omega)]
/-- the k-th symbol of a block -/
def digI (r : Int) (k : Nat) (b : Int) : Int := ((b.toNat / 2 ^ (wd r.toNat * k) % 2 ^ wd r.toNat : Nat) : Int)
theorem dig_sym {r : Int} {k : Nat} {b : Int} : SymI r (digI r k b) := ⟨Int.natCast_nonneg _, by unfold digI; rw [Int.toNat_natCast]; exact Nat.mod_lt _ (Nat.two_pow_pos _)⟩
theorem dig_scl {r m f b : Int} {k : Nat} (g : RngI r) (h : k < m.toNat) : digI r k (sclI r m f b) = mulI r (digI r k b) f := by
  unfold digI sclI mapI mulI
  rw [Int.toNat_natCast, Int.toNat_natCast, mapB_digit (fun _ h => mul_lt g.2 _ h) _ _ _ h]
theorem dig_xor {r : Int} {k : Nat} {a b : Int} (ha : 0 ≤ a) (hb : 0 ≤ b) : digI r k (Builtin.bitXor a b) = Builtin.bitXor (digI r k a) (digI r k b) := by
  unfold digI
  rw [xorI ha hb, xorI (Int.natCast_nonneg _) (Int.natCast_nonneg _), Int.toNat_natCast, Int.toNat_natCast, Int.toNat_natCast, Nat.xor_div_two_pow, Nat.xor_mod_two_pow]
theorem dig_fold {r m : Int} {k : Nat} (g : RngI r) (h : k < m.toNat) : ∀ (l : List (Int × Int)) {a : Int}, 0 ≤ a → digI r k (l.foldl (fun a p => Builtin.bitXor a (sclI r m p.1 p.2)) a) = l.foldl (fun a p => Builtin.bitXor a (mulI r (digI r k p.2) p.1)) (digI r k a)
  | [], _, _ => rfl
  | p :: l, a, ha => by
    have h2 := (scl_blk (m := m) (f := p.1) (b := p.2) g).1
    have e := dig_fold g h l (a := Builtin.bitXor a (sclI r m p.1 p.2)) (Bits.bitXor_nonneg ha h2)
    rw [dig_xor ha h2, dig_scl g h] at e
    exact e
theorem dig_zero {r : Int} {k : Nat} : digI r k 0 = 0 := by
  unfold digI
  rw [show (0 : Int).toNat = 0 from rfl, Nat.zero_div, Nat.zero_mod]
  rfl
/-- what a place weighs -/
def byI (r : Int) (k : Nat) : Int := ((2 ^ (wd r.toNat * k) : Nat) : Int)
theorem by_pos {r : Int} {k : Nat} : 0 < byI r k := by have := Nat.two_pow_pos (wd r.toNat * k); unfold byI; omega
theorem topI {r t : Int} (g : RngI r) (ht : t = lastI r + 1) : t = ((2 ^ wd r.toNat : Nat) : Int) := by
  have h1 := last1 g.2
  rw [ht]
  unfold lastI
  omega
theorem by_step {r t : Int} {k : Nat} (g : RngI r) (ht : t = lastI r + 1) : byI r k * t = byI r (k + 1) := by
  rw [topI g ht]
  unfold byI
  rw [← Int.natCast_mul, Nat.mul_succ, Nat.pow_add]
theorem by_le {r m : Int} {k : Nat} (g : RngI r) (hm : ManyI m) (hk : k ≤ m.toNat) : (byI r k).natAbs < 2 ^ 129 := by
  have h1 : 2 ^ (wd r.toNat * k) ≤ 2 ^ 128 := Nat.pow_le_pow_right (by decide) (Nat.le_trans (Nat.mul_le_mul_left _ hk) (wm_le g hm))
  unfold byI
  rw [Int.natAbs_natCast]
  exact Nat.lt_of_le_of_lt h1 (by decide)
theorem dig_eq {r t b : Int} {k : Nat} (g : RngI r) (ht : t = lastI r + 1) (hb : 0 ≤ b) : b / byI r k % t = digI r k b := by
  obtain ⟨n, rfl⟩ := Int.eq_ofNat_of_zero_le hb
  rw [topI g ht]
  unfold byI digI
  rw [Int.toNat_natCast, ← Int.natCast_ediv, ← Int.natCast_emod]
/-- the due sum up to a place -/
def dueI (r m : Int) (fs bs : List Int) (k : Nat) : Int := (((sumI r m fs bs).toNat % 2 ^ (wd r.toNat * k) : Nat) : Int)
theorem sumI_blk {r m : Int} (g : RngI r) {fs bs : List Int} : BlkI r m (sumI r m fs bs) := sum_blk g _ zero_blk
theorem due_zero {r m : Int} {fs bs : List Int} : dueI r m fs bs 0 = 0 := by
  unfold dueI
  rw [Nat.mul_zero, Nat.pow_zero, Nat.mod_one]
  rfl
theorem due_all {r m : Int} (g : RngI r) {fs bs : List Int} : dueI r m fs bs m.toNat = sumI r m fs bs := by
  have h := sumI_blk (m := m) g (fs := fs) (bs := bs)
  unfold dueI
  rw [Nat.mod_eq_of_lt h.2]
  exact Int.toNat_of_nonneg h.1
theorem symAt {r m t : Int} {k : Nat} (g : RngI r) (ht : t = lastI r + 1) (h : k < m.toNat) {fs bs : List Int} (hb : ∀ b ∈ bs, BlkI r m b) :
    (fs.zip bs).foldl (fun a p => Builtin.bitXor a (mulI r (p.2 / byI r k % t) p.1)) 0 = digI r k (sumI r m fs bs) := by
  unfold sumI
  rw [dig_fold g h _ (Int.le_refl 0), dig_zero]
  have hz : ∀ p ∈ fs.zip bs, BlkI r m p.2 := fun p hp => hb _ (List.of_mem_zip hp).2
  generalize fs.zip bs = l at hz
  generalize (0 : Int) = a
  induction l generalizing a with
  | nil => rfl
  | cons p l ih =>
    rw [List.foldl_cons, List.foldl_cons, dig_eq g ht (hz p List.mem_cons_self).1]
    apply ih
    exact fun q hq => hz q (List.mem_cons_of_mem _ hq)
theorem due_step {r m : Int} {k : Nat} {fs bs : List Int} : dueI r m fs bs k + digI r k (sumI r m fs bs) * byI r k = dueI r m fs bs (k + 1) := by
  unfold dueI digI byI
  rw [← Int.natCast_mul, ← Int.natCast_add]
  congr 1
  rw [Nat.mul_succ, Nat.pow_add, Nat.mod_mul, Nat.mul_comm (2 ^ (wd r.toNat * k))]
theorem xor0l {a : Int} (h : 0 ≤ a) : Builtin.bitXor 0 a = a := by
  rw [xorI (Int.le_refl 0) h]
  have : (0 : Int).toNat ^^^ a.toNat = a.toNat := Nat.zero_xor _
  rw [this]
  exact Int.toNat_of_nonneg h
theorem xorA {a b c : Int} (ha : 0 ≤ a) (hb : 0 ≤ b) (hc : 0 ≤ c) : Builtin.bitXor (Builtin.bitXor a b) c = Builtin.bitXor a (Builtin.bitXor b c) := by
  rw [xorI ha hb, xorI (Int.natCast_nonneg _) hc, xorI hb hc, xorI ha (Int.natCast_nonneg _), Int.toNat_natCast, Int.toNat_natCast, Nat.xor_assoc]
theorem sum_from {r m : Int} (g : RngI r) : ∀ (l : List (Int × Int)) {a : Int}, 0 ≤ a → l.foldl (fun a p => Builtin.bitXor a (sclI r m p.1 p.2)) a = Builtin.bitXor a (l.foldl (fun a p => Builtin.bitXor a (sclI r m p.1 p.2)) 0)
  | [], a, ha => by
    show a = Builtin.bitXor a 0
    rw [xorI ha (Int.le_refl 0)]
    have : a.toNat ^^^ (0 : Int).toNat = a.toNat := Nat.xor_zero _
    rw [this]
    exact (Int.toNat_of_nonneg ha).symm
  | p :: l, a, ha => by
    have h2 := (scl_blk (m := m) (f := p.1) (b := p.2) g).1
    have h3 := (sum_blk (m := m) g l zero_blk).1
    rw [List.foldl_cons, List.foldl_cons, sum_from g l (Bits.bitXor_nonneg ha h2), xor0l h2, sum_from g l h2, xorA ha h2 h3]
theorem sum_cut {r m : Int} (g : RngI r) {fs bs : List Int} (k : Nat) (hl : fs.length = bs.length) : Builtin.bitXor (sumI r m (fs.take k) (bs.take k)) (sumI r m (fs.drop k) (bs.drop k)) = sumI r m fs bs := by
  have e : fs.zip bs = (fs.take k).zip (bs.take k) ++ (fs.drop k).zip (bs.drop k) := by
    rw [← List.zip_append (by rw [List.length_take, List.length_take, hl]), List.take_append_drop, List.take_append_drop]
  unfold sumI
  rw [e, List.foldl_append]
  exact (sum_from g _ (sum_blk (m := m) g _ zero_blk).1).symm
def facI (c t : Int) : Int := if c % 3 = 1 then (([0, 1, t - 1] : List Int)[(c / 3 % 3).toNat]?).getD 0 else c / 3 % t
theorem fac_ix {c t : Int} : ([0, 1, t - 1] : List Int)[(c / 3 % 3).toNat]? = some ((([0, 1, t - 1] : List Int)[(c / 3 % 3).toNat]?).getD 0) := by
  have h : (c / 3 % 3).toNat < 3 := by omega
  match (c / 3 % 3).toNat, h with
  | 0, _ => rfl
  | 1, _ => rfl
  | 2, _ => rfl
theorem fac_sym {r c t : Int} (g : RngI r) (ht : t = lastI r + 1) : SymI r (facI c t) := by
  have hl : 0 ≤ lastI r := Int.natCast_nonneg _
  unfold facI
  split
  · have h : (c / 3 % 3).toNat < 3 := by omega
    match (c / 3 % 3).toNat, h with
    | 0, _ => exact sym0
    | 1, _ => exact sym1 g
    | 2, _ => exact sym_of g (show 0 ≤ t - 1 by omega) (show t - 1 ≤ lastI r by omega)
  · exact sym_mod g ht
def spreadI (c l : Int) : Int := (c % l * (2 ^ (61 : Int).toNat - 1) + c / 5 % l) % l
theorem spread_blk {r m c l : Int} (hl : l = limI r m) : BlkI r m (spreadI c l) := by
  have hp : 0 < l := by rw [hl]; unfold limI; have := Nat.two_pow_pos (wd r.toNat * m.toNat); omega
  have h1 : 0 ≤ spreadI c l := Int.emod_nonneg _ (by omega)
  have h2 : spreadI c l < l := Int.emod_lt_of_pos _ hp
  refine ⟨h1, ?_⟩
  have e : l = ((2 ^ (wd r.toNat * m.toNat) : Nat) : Int) := hl
  generalize 2 ^ (wd r.toNat * m.toNat) = n at *
  generalize spreadI c l = d at *
  omega
end MF

set_option Elab.async false
namespace MF
open PySem
abbrev Exn := VC.Exn
def blkX (k : Nat) (r m : Int) : Except Exn (Int × Int) := if 1 ≤ m ∧ m ≤ 16 then .ok (r, m) else .error (k, [])
theorem blkX_ok {k : Nat} {r m : Int} (h : ManyI m) : blkX k r m = .ok (r, m) := if_pos h
theorem blkX_er {k : Nat} {r m : Int} (h : ¬ ManyI m) : blkX k r m = .error (k, []) := if_neg h
theorem join_step {r b s : Int} (g : RngI r) (hb : 0 ≤ b) (hs : SymI r s) : Builtin.bitOr (b * 2 ^ ((wd r.toNat : Int)).toNat) s = b * (lastI r + 1) + s := by
  have e := topI g rfl
  rw [Int.toNat_natCast, L2.or_low hb hs.1 (by have := hs.2; have h2 := hs.1; have : ((s.toNat : Nat) : Int) < ((2 ^ wd r.toNat : Nat) : Int) := by exact_mod_cast hs.2
                                               rw [Int.toNat_of_nonneg hs.1] at this; simpa using this), e]
  simp
theorem joinI_cons {r s : Int} {l : List Int} : joinI r (s :: l) = joinI r l * (lastI r + 1) + s := rfl
theorem joinI_nn {r : Int} (g : RngI r) {l : List Int} (hl : AllSym r l) : 0 ≤ joinI r l := by
  obtain ⟨h1, _⟩ := join_map g (h := fun x => x) (fun _ h => h) hl
  rw [h1]
  exact Int.natCast_nonneg _
theorem rev_fold {r : Int} {l : List Int} : l.reverse.foldl (fun a s => a * (lastI r + 1) + s) 0 = joinI r l := by
  rw [List.foldl_reverse]
  rfl
theorem fold_lt {r : Int} (g : RngI r) : ∀ {l : List Int}, AllSym r l → (0 ≤ l.foldl (fun a s => a * (lastI r + 1) + s) 0 ∧ (l.foldl (fun a s => a * (lastI r + 1) + s) 0).toNat < 2 ^ (wd r.toNat * l.length)) := by
  intro l hl
  have e : l.foldl (fun a s => a * (lastI r + 1) + s) 0 = joinI r l.reverse := by
    rw [← rev_fold, List.reverse_reverse]
  have hr : AllSym r l.reverse := fun x hx => hl x (List.mem_reverse.mp hx)
  have h := join_blk (m := l.length) g hr (by rw [List.length_reverse])
  rw [e]
  exact ⟨h.1, by have := h.2; rw [Int.toNat_natCast] at this; exact this⟩
theorem digI_0 {r s : Int} {l : List Int} (g : RngI r) (hl : AllSym r (s :: l)) : digI r 0 (joinI r (s :: l)) = s ∧ ∀ k, digI r (k + 1) (joinI r (s :: l)) = digI r k (joinI r l) := by
  have hs := hl s List.mem_cons_self
  have hj := joinI_nn g (l := l) fun y hy => hl y (List.mem_cons_of_mem _ hy)
  have e : (joinI r (s :: l)).toNat = s.toNat + 2 ^ wd r.toNat * (joinI r l).toNat := by
    rw [joinI_cons, topI g rfl]
    obtain ⟨n, hn⟩ := Int.eq_ofNat_of_zero_le hj
    obtain ⟨p, hp⟩ := Int.eq_ofNat_of_zero_le hs.1
    rw [hn, hp, ← Int.natCast_mul, ← Int.natCast_add, Int.toNat_natCast, Int.toNat_natCast, Int.toNat_natCast, Nat.mul_comm, Nat.add_comm]
  constructor
  · unfold digI
    rw [e, Nat.mul_zero, Nat.pow_zero, Nat.div_one, dm_mod hs.2]
    exact Int.toNat_of_nonneg hs.1
  · intro k
    unfold digI
    rw [e, show wd r.toNat * (k + 1) = wd r.toNat + wd r.toNat * k by rw [Nat.mul_succ, Nat.add_comm], Nat.pow_add, ← Nat.div_div_eq_div_mul, dm_div hs.2]
theorem digI_join {r : Int} (g : RngI r) : ∀ {l : List Int} {k : Nat} {x : Int}, AllSym r l → l[k]? = some x → digI r k (joinI r l) = x
  | s :: l, 0, x, hl, h => by
    cases h
    exact (digI_0 g hl).1
  | s :: l, k + 1, x, hl, h => by
    rw [(digI_0 g hl).2]
    exact digI_join g (fun y hy => hl y (List.mem_cons_of_mem _ hy)) (by simpa using h)
theorem syms_join {r m : Int} (g : RngI r) {l : List Int} (hl : AllSym r l) (hm : m = l.length) : symsI r m (joinI r l) = l := by
  apply List.ext_getElem?
  intro i
  unfold symsI
  rw [List.getElem?_map]
  by_cases h : i < l.length
  · rw [VC.rangeL0_iff.mpr ⟨by omega, rfl⟩]
    have hx : l[i]? = some l[i] := List.getElem?_eq_getElem h
    rw [hx]
    have := digI_join g hl hx
    unfold digI at this
    simpa using this
  · rw [List.getElem?_eq_none (by rw [VC.rangeL_len]; omega), List.getElem?_eq_none (by omega)]
    rfl
theorem join_inj {r : Int} (g : RngI r) {l l' : List Int} (hl : AllSym r l) (hl' : AllSym r l') (e : l.length = l'.length) : (joinI r l = joinI r l') ↔ l = l' := by
  constructor
  · intro h
    rw [← syms_join g hl rfl, h, e, syms_join g hl' rfl]
  · intro h
    rw [h]
theorem joinT_snoc {t x : Int} : ∀ {l : List Int}, joinT t (l ++ [x]) = joinT t l + x * t ^ l.length
  | [] => by simp [joinT]
  | s :: l => by
    have h := joinT_snoc (t := t) (x := x) (l := l)
    show joinT t (l ++ [x]) * t + s = joinT t l * t + s + x * t ^ (l.length + 1)
    rw [h, Int.pow_succ, Int.add_mul, Int.mul_assoc]
    omega
theorem joinT_step {t x : Int} {l : List Int} {i : Nat} (h : l[i]? = some x) : joinT t (l.take (i + 1)) = joinT t (l.take i) + x * t ^ i := by
  obtain ⟨hi, rfl⟩ := List.getElem?_eq_some_iff.mp h
  rw [List.take_succ_eq_append_getElem hi, joinT_snoc, List.length_take, Nat.min_eq_left (Nat.le_of_lt hi)]
theorem joinT_zeros {t : Int} : ∀ n : Nat, joinT t (List.replicate n 0 ++ [1]) = t ^ n
  | 0 => by simp [joinT]
  | n + 1 => by
    show joinT t (List.replicate n 0 ++ [1]) * t + 0 = _
    rw [joinT_zeros n, Int.pow_succ, Int.add_zero]
theorem lim_pow {r t m : Int} (g : RngI r) (ht : t = lastI r + 1) : t ^ m.toNat = limI r m := by
  rw [topI g ht]
  unfold limI
  rw [Nat.pow_mul]
  simp
theorem joinI_T {r t : Int} {l : List Int} (ht : t = lastI r + 1) : joinT t l = joinI r l := by rw [ht]; rfl
theorem lim_syms {r : Int} {n : Nat} (g : RngI r) : AllSym r (List.replicate n 0 ++ [1]) := by
  intro x hx
  rcases List.mem_append.mp hx with h | h
  · rw [(List.mem_replicate.mp h).2]
    exact sym0
  · rw [List.mem_singleton.mp h]
    exact sym1 g
theorem wd_len {r : Int} {n : Nat} (w : wd r.toNat ≤ 8) (h : n ≤ 16) : wd r.toNat * n ≤ 128 := by
  have := Nat.mul_le_mul w h
  omega
def symOf (s : List Int) (t k : Int) : Int := if k + 2 < s.length then cellI s (k + 2) % t else ((cellI s (k % 5) % 2147483629 + 48271) * (7919 * k + 104729) % 2147483647) ^ 5 % 2147483629 / 16 % 65537 % t
def symsOf (s : List Int) (m t : Int) : List Int := (VC.rangeL 0 m).map (symOf s t)
theorem symsOf_len {s : List Int} {m t : Int} : (symsOf s m t).length = m.toNat := by
  unfold symsOf
  rw [List.length_map, VC.rangeL_len, Int.sub_zero]
theorem symsOf_sym {r t m : Int} {s : List Int} (g : RngI r) (ht : t = lastI r + 1) : AllSym r (symsOf s m t) := by
  intro x hx
  obtain ⟨k, _, rfl⟩ := List.mem_map.mp hx
  unfold symOf
  split
  · exact sym_mod g ht
  · exact sym_mod g ht
theorem set_sym {r : Int} {l : List Int} {k : Nat} {x : Int} (hl : AllSym r l) (hx : SymI r x) : AllSym r (l.set k x) := by
  intro y hy
  rcases List.mem_or_eq_of_mem_set hy with h | h
  · exact hl y h
  · rw [h]
    exact hx
end MF

set_option Elab.async false
set_option maxRecDepth 100000
set_option maxHeartbeats 4000000
namespace Lw
open PySem PySem.Spec L2 VC
local macro_rules | `(tactic| walk_at "vc") => `(tactic| first | trivial | omega | (simp; done) | (simp; omega) | assumption)
abbrev ix_PlankError : Nat := 0
abbrev ix_NoField : Nat := 1
abbrev ix_NoBack : Nat := 2
abbrev ix_NoCode : Nat := 3
abbrev ix_NoShape : Nat := 4
abbrev ix_NoPlace : Nat := 5
abbrev ix_NoBlock : Nat := 6
abbrev ix_Gone : Nat := 7
abbrev ix_Standing : Nat := 8
abbrev ix_NoPower : Nat := 9
abbrev ix_WrongPlank : Nat := 10
abbrev ix_NoLine : Nat := 11
def top (i : Nat) : Stmt := PySem.Challenge.pw_spareplank_k05_symbols_and_blocks.main.body.getD i (.Pass ⟨0, 0, 0, 0⟩)
abbrev N_doubled : List PySem.Str := ["one", "rule", "last"]
abbrev s_doubled : Stmt := top 20
theorem sc_doubled : FnScope N_doubled ["one", "rule", "last"] (defScope s_doubled) := ⟨rfl, rfl, rfl, by decide +kernel, rfl, by decide +kernel, by decide +kernel⟩
abbrev N_walk_of : List PySem.Str := ["rule", "last", "found", "one"]
abbrev s_walk_of : Stmt := top 21
theorem sc_walk_of : FnScope N_walk_of ["rule", "last"] (defScope s_walk_of) := ⟨rfl, rfl, rfl, by decide +kernel, rfl, by decide +kernel, by decide +kernel⟩
abbrev N_Field___init__ : List PySem.Str := ["self", "rule", "many", "one"]
abbrev s_Field___init__ : Stmt := inClass (top 22) 0
theorem sc_Field___init__ : FnScope N_Field___init__ ["self", "rule"] (defScope s_Field___init__) := ⟨rfl, rfl, rfl, by decide +kernel, rfl, by decide +kernel, by decide +kernel⟩
abbrev N_Blocks___init__ : List PySem.Str := ["self", "field", "many"]
abbrev s_Blocks___init__ : Stmt := inClass (top 16) 0
theorem sc_Blocks___init__ : FnScope N_Blocks___init__ ["self", "field", "many"] (defScope s_Blocks___init__) := ⟨rfl, rfl, rfl, by decide +kernel, rfl, by decide +kernel, by decide +kernel⟩
abbrev N_Blocks_good : List PySem.Str := ["self", "block"]
abbrev s_Blocks_good : Stmt := inClass (top 16) 1
theorem sc_Blocks_good : FnScope N_Blocks_good ["self", "block"] (defScope s_Blocks_good) := ⟨rfl, rfl, rfl, by decide +kernel, rfl, by decide +kernel, by decide +kernel⟩
abbrev N_Blocks_symbols : List PySem.Str := ["self", "block", "found", "place"]
abbrev s_Blocks_symbols : Stmt := inClass (top 16) 2
theorem sc_Blocks_symbols : FnScope N_Blocks_symbols ["self", "block"] (defScope s_Blocks_symbols) := ⟨rfl, rfl, rfl, by decide +kernel, rfl, by decide +kernel, by decide +kernel⟩
abbrev N_Blocks_joined : List PySem.Str := ["self", "some", "block", "symbol"]
abbrev s_Blocks_joined : Stmt := inClass (top 16) 3
theorem sc_Blocks_joined : FnScope N_Blocks_joined ["self", "some"] (defScope s_Blocks_joined) := ⟨rfl, rfl, rfl, by decide +kernel, rfl, by decide +kernel, by decide +kernel⟩
abbrev N_cell_at : List PySem.Str := ["_law_script", "_law_k"]
abbrev s_cell_at : Stmt := top 24
theorem sc_cell_at : FnScope N_cell_at ["_law_script", "_law_k"] (defScope s_cell_at) := ⟨rfl, rfl, rfl, by decide +kernel, rfl, by decide +kernel, by decide +kernel⟩
abbrev N_whole : List PySem.Str := ["_law_found", "_law_due"]
abbrev s_whole : Stmt := top 25
theorem sc_whole : FnScope N_whole ["_law_found", "_law_due"] (defScope s_whole) := ⟨rfl, rfl, rfl, by decide +kernel, rfl, by decide +kernel, by decide +kernel⟩
abbrev N_rule_by : List PySem.Str := ["_law_cell", "_law_some"]
abbrev s_rule_by : Stmt := top 26
theorem sc_rule_by : FnScope N_rule_by ["_law_cell"] (defScope s_rule_by) := ⟨rfl, rfl, rfl, by decide +kernel, rfl, by decide +kernel, by decide +kernel⟩
abbrev N_top : List PySem.Str := ["_law_rule", "_law_top_here"]
abbrev s_top : Stmt := top 27
theorem sc_top : FnScope N_top ["_law_rule"] (defScope s_top) := ⟨rfl, rfl, rfl, by decide +kernel, rfl, by decide +kernel, by decide +kernel⟩
abbrev N_mixed : List PySem.Str := ["_law_cell", "_law_k", "_law_number_here"]
abbrev s_mixed : Stmt := top 28
theorem sc_mixed : FnScope N_mixed ["_law_cell", "_law_k"] (defScope s_mixed) := ⟨rfl, rfl, rfl, by decide +kernel, rfl, by decide +kernel, by decide +kernel⟩
abbrev N_symbols_by : List PySem.Str := ["_law_script", "_law_many", "_law_top_here", "_law_found", "_law_k"]
abbrev s_symbols_by : Stmt := top 29
theorem sc_symbols_by : FnScope N_symbols_by ["_law_script", "_law_many", "_law_top_here"] (defScope s_symbols_by) := ⟨rfl, rfl, rfl, by decide +kernel, rfl, by decide +kernel, by decide +kernel⟩
abbrev N_number : List PySem.Str := ["_law_some", "_law_top_here", "_law_found", "_law_by", "_law_symbol"]
abbrev s_number : Stmt := top 30
theorem sc_number : FnScope N_number ["_law_some", "_law_top_here"] (defScope s_number) := ⟨rfl, rfl, rfl, by decide +kernel, rfl, by decide +kernel, by decide +kernel⟩
abbrev N_alike : List PySem.Str := ["_law_found", "_law_due", "_law_one", "_law_other"]
abbrev s_alike : Stmt := top 31
theorem sc_alike : FnScope N_alike ["_law_found", "_law_due"] (defScope s_alike) := ⟨rfl, rfl, rfl, by decide +kernel, rfl, by decide +kernel, by decide +kernel⟩
abbrev N_refused : List PySem.Str := ["_law_field", "_law_many", "_law_error", "e"]
abbrev s_refused : Stmt := top 32
theorem sc_refused : FnScope N_refused ["_law_field", "_law_many"] (defScope s_refused) := ⟨rfl, rfl, rfl, by decide +kernel, rfl, by decide +kernel, by decide +kernel⟩
abbrev N_good : List PySem.Str := ["_law_blocks", "_law_number_here", "_law_limit", "_law_one", "_law_found"]
abbrev s_good : Stmt := top 33
theorem sc_good : FnScope N_good ["_law_blocks", "_law_number_here", "_law_limit"] (defScope s_good) := ⟨rfl, rfl, rfl, by decide +kernel, rfl, by decide +kernel, by decide +kernel⟩
abbrev N_law : List PySem.Str := ["_law_script", "_law_rule", "_law_top_here", "_law_field", "_law_many", "_law_blocks", "_law_limit", "_law_some", "_law_other", "_law_place", "_law_handed", "_law_block", "_law_found", "_law_second", "_law_far"]
abbrev s_law : Stmt := top 34
theorem sc_law : FnScope N_law ["_law_script"] (defScope s_law) := ⟨rfl, rfl, rfl, by decide +kernel, rfl, by decide +kernel, by decide +kernel⟩
structure Ad where
  f_doubled : Addr
  f_walk_of : Addr
  f_Field___init__ : Addr
  f_Blocks___init__ : Addr
  f_Blocks_good : Addr
  f_Blocks_symbols : Addr
  f_Blocks_joined : Addr
  f_cell_at : Addr
  f_whole : Addr
  f_rule_by : Addr
  f_top : Addr
  f_mixed : Addr
  f_symbols_by : Addr
  f_number : Addr
  f_alike : Addr
  f_refused : Addr
  f_good : Addr
  f_law : Addr
  c_Field : Addr
  c_Blocks : Addr
  x_PlankError : Addr
  x_NoField : Addr
  x_NoBack : Addr
  x_NoCode : Addr
  x_NoShape : Addr
  x_NoPlace : Addr
  x_NoBlock : Addr
  x_Gone : Addr
  x_Standing : Addr
  x_NoPower : Addr
  x_WrongPlank : Addr
  x_NoLine : Addr
  d_doubled : FuncData
  d_walk_of : FuncData
  d_Field___init__ : FuncData
  d_Blocks___init__ : FuncData
  d_Blocks_good : FuncData
  d_Blocks_symbols : FuncData
  d_Blocks_joined : FuncData
  d_cell_at : FuncData
  d_whole : FuncData
  d_rule_by : FuncData
  d_top : FuncData
  d_mixed : FuncData
  d_symbols_by : FuncData
  d_number : FuncData
  d_alike : FuncData
  d_refused : FuncData
  d_good : FuncData
  d_law : FuncData
def exL (a : Ad) : ExTab := [(a.x_PlankError, []), (a.x_NoField, ["rule", "after"]), (a.x_NoBack, []), (a.x_NoCode, []), (a.x_NoShape, []), (a.x_NoPlace, ["place"]), (a.x_NoBlock, ["block"]), (a.x_Gone, ["stripe", "plank"]), (a.x_Standing, ["stripe"]), (a.x_NoPower, []), (a.x_WrongPlank, ["plank"]), (a.x_NoLine, [])]
def schField (a : Ad) (p : Int) : List (PySem.Str × As) := [("rule", ⟨tInt, p⟩), ("width", ⟨tInt, (MF.wd p.toNat : Int)⟩), ("last", ⟨tInt, MF.lastI p⟩), ("powers", ⟨(tList tInt), MF.natI (MF.pows p.toNat)⟩), ("logs", ⟨(tList tInt), MF.natI (MF.lgs p.toNat)⟩)]
def tField (a : Ad) : Ty (Int) := tObj a.c_Field (schField a)
abbrev ns_Field : List PySem.Str := ["rule", "width", "last", "powers", "logs"]
def schBlocks (a : Ad) (p : Int × Int) : List (PySem.Str × As) := [("field", ⟨(tField a), p.1⟩), ("many", ⟨tInt, p.2⟩), ("limit", ⟨tInt, MF.limI p.1 p.2⟩), ("ones", ⟨tInt, MF.onesI p.1 p.2⟩)]
def tBlocks (a : Ad) : Ty (Int × Int) := tObj a.c_Blocks (schBlocks a)
abbrev ns_Blocks : List PySem.Str := ["field", "many", "limit", "ones"]
structure Tx (K : PySem.W.Frag) (mg : PySem.Str → Option Value) (a : Ad) : Prop where
  F_doubled : Fun K "doubled" "doubled" s_doubled a.f_doubled a.d_doubled
  b_doubled : Binds K a.d_doubled ["one", "rule", "last"] []
  m_doubled : mg "doubled" = some (.ref a.f_doubled)
  F_walk_of : Fun K "walk_of" "walk_of" s_walk_of a.f_walk_of a.d_walk_of
  b_walk_of : Binds K a.d_walk_of ["rule", "last"] []
  m_walk_of : mg "walk_of" = some (.ref a.f_walk_of)
  F_Field___init__ : Fun K "__init__" "Field.__init__" s_Field___init__ a.f_Field___init__ a.d_Field___init__
  b_Field___init__ : Binds K a.d_Field___init__ ["self", "rule"] []
  F_Blocks___init__ : Fun K "__init__" "Blocks.__init__" s_Blocks___init__ a.f_Blocks___init__ a.d_Blocks___init__
  b_Blocks___init__ : Binds K a.d_Blocks___init__ ["self", "field", "many"] []
  F_Blocks_good : Fun K "good" "Blocks.good" s_Blocks_good a.f_Blocks_good a.d_Blocks_good
  b_Blocks_good : Binds K a.d_Blocks_good ["self", "block"] []
  e_Blocks_good : Meth K a.c_Blocks "good" a.f_Blocks_good
  F_Blocks_symbols : Fun K "symbols" "Blocks.symbols" s_Blocks_symbols a.f_Blocks_symbols a.d_Blocks_symbols
  b_Blocks_symbols : Binds K a.d_Blocks_symbols ["self", "block"] []
  e_Blocks_symbols : Meth K a.c_Blocks "symbols" a.f_Blocks_symbols
  F_Blocks_joined : Fun K "joined" "Blocks.joined" s_Blocks_joined a.f_Blocks_joined a.d_Blocks_joined
  b_Blocks_joined : Binds K a.d_Blocks_joined ["self", "some"] []
  e_Blocks_joined : Meth K a.c_Blocks "joined" a.f_Blocks_joined
  F_cell_at : Fun K "_law_cell_at" "_law_cell_at" s_cell_at a.f_cell_at a.d_cell_at
  b_cell_at : Binds K a.d_cell_at ["_law_script", "_law_k"] []
  m_cell_at : mg "_law_cell_at" = some (.ref a.f_cell_at)
  F_whole : Fun K "_law_whole" "_law_whole" s_whole a.f_whole a.d_whole
  b_whole : Binds K a.d_whole ["_law_found", "_law_due"] []
  m_whole : mg "_law_whole" = some (.ref a.f_whole)
  F_rule_by : Fun K "_law_rule_by" "_law_rule_by" s_rule_by a.f_rule_by a.d_rule_by
  b_rule_by : Binds K a.d_rule_by ["_law_cell"] []
  m_rule_by : mg "_law_rule_by" = some (.ref a.f_rule_by)
  F_top : Fun K "_law_top" "_law_top" s_top a.f_top a.d_top
  b_top : Binds K a.d_top ["_law_rule"] []
  m_top : mg "_law_top" = some (.ref a.f_top)
  F_mixed : Fun K "_law_mixed" "_law_mixed" s_mixed a.f_mixed a.d_mixed
  b_mixed : Binds K a.d_mixed ["_law_cell", "_law_k"] []
  m_mixed : mg "_law_mixed" = some (.ref a.f_mixed)
  F_symbols_by : Fun K "_law_symbols_by" "_law_symbols_by" s_symbols_by a.f_symbols_by a.d_symbols_by
  b_symbols_by : Binds K a.d_symbols_by ["_law_script", "_law_many", "_law_top_here"] []
  m_symbols_by : mg "_law_symbols_by" = some (.ref a.f_symbols_by)
  F_number : Fun K "_law_number" "_law_number" s_number a.f_number a.d_number
  b_number : Binds K a.d_number ["_law_some", "_law_top_here"] []
  m_number : mg "_law_number" = some (.ref a.f_number)
  F_alike : Fun K "_law_alike" "_law_alike" s_alike a.f_alike a.d_alike
  b_alike : Binds K a.d_alike ["_law_found", "_law_due"] []
  m_alike : mg "_law_alike" = some (.ref a.f_alike)
  F_refused : Fun K "_law_refused" "_law_refused" s_refused a.f_refused a.d_refused
  b_refused : Binds K a.d_refused ["_law_field", "_law_many"] []
  m_refused : mg "_law_refused" = some (.ref a.f_refused)
  F_good : Fun K "_law_good" "_law_good" s_good a.f_good a.d_good
  b_good : Binds K a.d_good ["_law_blocks", "_law_number_here", "_law_limit"] []
  m_good : mg "_law_good" = some (.ref a.f_good)
  F_law : Fun K "law" "law" s_law a.f_law a.d_law
  b_law : Binds K a.d_law ["_law_script"] []
  m_law : mg "law" = some (.ref a.f_law)
  C_Field : Cls K a.c_Field
  m_Field : mg "Field" = some (.ref a.c_Field)
  M_Field : Mk K a.c_Field a.f_Field___init__
  n_Field_rule : NoAttr K a.c_Field "rule"
  n_Field_width : NoAttr K a.c_Field "width"
  n_Field_last : NoAttr K a.c_Field "last"
  n_Field_powers : NoAttr K a.c_Field "powers"
  n_Field_logs : NoAttr K a.c_Field "logs"
  C_Blocks : Cls K a.c_Blocks
  m_Blocks : mg "Blocks" = some (.ref a.c_Blocks)
  M_Blocks : Mk K a.c_Blocks a.f_Blocks___init__
  n_Blocks_field : NoAttr K a.c_Blocks "field"
  n_Blocks_many : NoAttr K a.c_Blocks "many"
  n_Blocks_limit : NoAttr K a.c_Blocks "limit"
  n_Blocks_ones : NoAttr K a.c_Blocks "ones"
  m_PlankError : mg "PlankError" = some (.ref a.x_PlankError)
  m_NoField : mg "NoField" = some (.ref a.x_NoField)
  m_NoBack : mg "NoBack" = some (.ref a.x_NoBack)
  m_NoCode : mg "NoCode" = some (.ref a.x_NoCode)
  m_NoShape : mg "NoShape" = some (.ref a.x_NoShape)
  m_NoPlace : mg "NoPlace" = some (.ref a.x_NoPlace)
  m_NoBlock : mg "NoBlock" = some (.ref a.x_NoBlock)
  m_Gone : mg "Gone" = some (.ref a.x_Gone)
  m_Standing : mg "Standing" = some (.ref a.x_Standing)
  m_NoPower : mg "NoPower" = some (.ref a.x_NoPower)
  m_WrongPlank : mg "WrongPlank" = some (.ref a.x_WrongPlank)
  m_NoLine : mg "NoLine" = some (.ref a.x_NoLine)
  X_Gone : VX.ExcC K a.x_Gone
  X_NoBack : VX.ExcC K a.x_NoBack
  X_NoBlock : VX.ExcC K a.x_NoBlock
  X_NoCode : VX.ExcC K a.x_NoCode
  X_NoField : VX.ExcC K a.x_NoField
  X_NoLine : VX.ExcC K a.x_NoLine
  X_NoPlace : VX.ExcC K a.x_NoPlace
  X_NoPower : VX.ExcC K a.x_NoPower
  X_NoShape : VX.ExcC K a.x_NoShape
  X_PlankError : VX.ExcC K a.x_PlankError
  X_Standing : VX.ExcC K a.x_Standing
  X_WrongPlank : VX.ExcC K a.x_WrongPlank
  p_NoShape_Gone : PySem.W.subIn K (.ref a.x_NoShape) (.ref a.x_Gone) = some false
  p_NoShape_NoBack : PySem.W.subIn K (.ref a.x_NoShape) (.ref a.x_NoBack) = some false
  p_NoShape_NoBlock : PySem.W.subIn K (.ref a.x_NoShape) (.ref a.x_NoBlock) = some false
  p_NoShape_NoCode : PySem.W.subIn K (.ref a.x_NoShape) (.ref a.x_NoCode) = some false
  p_NoShape_NoField : PySem.W.subIn K (.ref a.x_NoShape) (.ref a.x_NoField) = some false
  p_NoShape_NoLine : PySem.W.subIn K (.ref a.x_NoShape) (.ref a.x_NoLine) = some false
  p_NoShape_NoPlace : PySem.W.subIn K (.ref a.x_NoShape) (.ref a.x_NoPlace) = some false
  p_NoShape_NoPower : PySem.W.subIn K (.ref a.x_NoShape) (.ref a.x_NoPower) = some false
  p_NoShape_NoShape : PySem.W.subIn K (.ref a.x_NoShape) (.ref a.x_NoShape) = some true
  p_NoShape_PlankError : PySem.W.subIn K (.ref a.x_NoShape) (.ref a.x_PlankError) = some true
  p_NoShape_Standing : PySem.W.subIn K (.ref a.x_NoShape) (.ref a.x_Standing) = some false
  p_NoShape_WrongPlank : PySem.W.subIn K (.ref a.x_NoShape) (.ref a.x_WrongPlank) = some false
  q_NoShape : PySem.W.excIn K a.x_NoShape [.type "ValueError", .type "Exception", .type "BaseException", .type "object"] "ValueError.__new__" = true
  kx_NoShape : PySem.W.keepIn K (.ref a.x_NoShape) = true
  s_NoShape : PySem.W.subIn K (.ref a.x_NoShape) (.ref a.x_NoShape) = some true
  t_NoShape_NoShape : PySem.W.exmOne K (.ref a.x_NoShape) (.ref a.x_NoShape) = some true
  v_NoShape : PySem.W.subIn K (.ref a.x_NoShape) (.type "ValueError") = some true
  g_MOST_SYMBOLS : ∃ t, mg "MOST_SYMBOLS" = some (.int 16 t)
  g_LEAST_RULE : ∃ t, mg "LEAST_RULE" = some (.int 16 t)
  g_END_OF_RULES : ∃ t, mg "END_OF_RULES" = some (.int 512 t)
  n_ValueError : mg "ValueError" = none
  n_bool : mg "bool" = none
  n_enumerate : mg "enumerate" = none
  n_int : mg "int" = none
  n_isinstance : mg "isinstance" = none
  n_len : mg "len" = none
  n_list : mg "list" = none
  n_range : mg "range" = none
  n_reversed : mg "reversed" = none
  n_zip : mg "zip" = none
theorem fld_Field_rule {K : PySem.W.Frag} {mg : PySem.Str → Option Value} {a : Ad} {B : Bs} {Γ : Cxt} {t : TE} {p : Int} (T : Tx K mg a) (h : Sm B Γ t (tField a) p) : Sm B Γ (tFld K t "rule") tInt (p) := sm_fld h ns_Field 0 (by decide +kernel) T.C_Field T.n_Field_rule rfl rfl
theorem fld_Field_width {K : PySem.W.Frag} {mg : PySem.Str → Option Value} {a : Ad} {B : Bs} {Γ : Cxt} {t : TE} {p : Int} (T : Tx K mg a) (h : Sm B Γ t (tField a) p) : Sm B Γ (tFld K t "width") tInt ((MF.wd p.toNat : Int)) := sm_fld h ns_Field 1 (by decide +kernel) T.C_Field T.n_Field_width rfl rfl
theorem fld_Field_last {K : PySem.W.Frag} {mg : PySem.Str → Option Value} {a : Ad} {B : Bs} {Γ : Cxt} {t : TE} {p : Int} (T : Tx K mg a) (h : Sm B Γ t (tField a) p) : Sm B Γ (tFld K t "last") tInt (MF.lastI p) := sm_fld h ns_Field 2 (by decide +kernel) T.C_Field T.n_Field_last rfl rfl
theorem fld_Field_powers {K : PySem.W.Frag} {mg : PySem.Str → Option Value} {a : Ad} {B : Bs} {Γ : Cxt} {t : TE} {p : Int} (T : Tx K mg a) (h : Sm B Γ t (tField a) p) : Sm B Γ (tFld K t "powers") (tList tInt) (MF.natI (MF.pows p.toNat)) := sm_fld h ns_Field 3 (by decide +kernel) T.C_Field T.n_Field_powers rfl rfl
theorem fld_Field_logs {K : PySem.W.Frag} {mg : PySem.Str → Option Value} {a : Ad} {B : Bs} {Γ : Cxt} {t : TE} {p : Int} (T : Tx K mg a) (h : Sm B Γ t (tField a) p) : Sm B Γ (tFld K t "logs") (tList tInt) (MF.natI (MF.lgs p.toNat)) := sm_fld h ns_Field 4 (by decide +kernel) T.C_Field T.n_Field_logs rfl rfl
theorem fld_Blocks_field {K : PySem.W.Frag} {mg : PySem.Str → Option Value} {a : Ad} {B : Bs} {Γ : Cxt} {t : TE} {p : Int × Int} (T : Tx K mg a) (h : Sm B Γ t (tBlocks a) p) : Sm B Γ (tFld K t "field") (tField a) (p.1) := sm_fld h ns_Blocks 0 (by decide +kernel) T.C_Blocks T.n_Blocks_field rfl rfl
theorem fld_Blocks_many {K : PySem.W.Frag} {mg : PySem.Str → Option Value} {a : Ad} {B : Bs} {Γ : Cxt} {t : TE} {p : Int × Int} (T : Tx K mg a) (h : Sm B Γ t (tBlocks a) p) : Sm B Γ (tFld K t "many") tInt (p.2) := sm_fld h ns_Blocks 1 (by decide +kernel) T.C_Blocks T.n_Blocks_many rfl rfl
theorem fld_Blocks_limit {K : PySem.W.Frag} {mg : PySem.Str → Option Value} {a : Ad} {B : Bs} {Γ : Cxt} {t : TE} {p : Int × Int} (T : Tx K mg a) (h : Sm B Γ t (tBlocks a) p) : Sm B Γ (tFld K t "limit") tInt (MF.limI p.1 p.2) := sm_fld h ns_Blocks 2 (by decide +kernel) T.C_Blocks T.n_Blocks_limit rfl rfl
theorem fld_Blocks_ones {K : PySem.W.Frag} {mg : PySem.Str → Option Value} {a : Ad} {B : Bs} {Γ : Cxt} {t : TE} {p : Int × Int} (T : Tx K mg a) (h : Sm B Γ t (tBlocks a) p) : Sm B Γ (tFld K t "ones") tInt (MF.onesI p.1 p.2) := sm_fld h ns_Blocks 3 (by decide +kernel) T.C_Blocks T.n_Blocks_ones rfl rfl
def sp_doubled (K : PySem.W.Frag) (a : Ad) : Sp := spF3 tInt tInt tInt (fun one rule last => MF.RngI rule ∧ MF.SymI rule one ∧ last = MF.lastI rule) tInt (fun one rule last => MF.dblI rule one)
set_option maxHeartbeats 4000000 in
theorem ok_doubled {P : Program} {w : World} {K : PySem.W.Frag} {mg : PySem.Str → Option Value} {base : Heap} {a : Ad} (T : Tx K mg a) : FnOk P w K mg base CX0 1 a.f_doubled a.d_doubled ["one", "rule", "last"] (sp_doubled K a) := by
  refine T.F_doubled.ok sc_doubled (fun vs H Q E h => spF3_len h) (fun cdv A outer s H vs Q E hr h => ?_)
  refine ⟨_, (pss_cons (ps_set (i := 0) sc_doubled.nd rfl (by first | exact Or.inl rfl | exact Or.inr rfl) (pe_op op_shl (pv 0) pe_int))
      (pss_cons (ps_if (pt_cmpR op_gt (pv 0) (pv 2) (nomark _)) (pss_cons (ps_set (i := 0) sc_doubled.nd rfl (by first | exact Or.inl rfl | exact Or.inr rfl) (pe_op op_xor (pv 0) (pv 1))) pss_nil) pss_nil)
      (pss_cons (ps_ret (pv 0))
      pss_nil))), ?_⟩
  refine spF3_body (by show 3 ≤ 3; decide) h (fun B0 hn one rule last hp R => ?_)
  replace hn : B0.n = 3 := hn
  try dsimp only at hp
  try dsimp only at R
  -- one = one << 1
  refine g_asg (τ := tInt) (by rw [hn]; decide) (sm_op (sm_var rfl) sm_int (ov_shl (by /- 1.shl -/ (try dsimp only); first | done | (have h1 := hp.2.1.lt hp.1; exact ⟨by decide, by decide, by have := hp.2.1.1; omega⟩)))) (fun one1 h_one1 => ?_)
  -- if one > last
  refine g_ifAsg (by rw [hn]; decide) (smt_tt (sm_op (sm_var rfl) (sm_var rfl) ov_gt)) rfl (fun hb => (sm_op (sm_var rfl) (sm_var rfl) ov_xor)) (fun one2 h_one2 => ?_)
  -- return one
  exact g_ret (Le.refl B0) R (sm_var rfl) (by /- 4.ret -/ (try dsimp only); first | done | (rw [h_one2, h_one1]; exact MF.dblI_step hp.1 hp.2.1 hp.2.2))
def sp_walk_of (K : PySem.W.Frag) (a : Ad) : Sp := spO2 tInt tInt (fun rule last => MF.GoodI rule ∧ last = MF.lastI rule) tInt (fun rule last => MF.natI (MF.pows rule.toNat))
set_option maxHeartbeats 4000000 in
theorem ok_walk_of {P : Program} {w : World} {K : PySem.W.Frag} {mg : PySem.Str → Option Value} {base : Heap} {a : Ad} (T : Tx K mg a) : FnOk P w K mg base CX0 2 a.f_walk_of a.d_walk_of ["rule", "last"] (sp_walk_of K a) := by
  refine T.F_walk_of.ok sc_walk_of (fun vs H Q E h => spO2_len h) (fun cdv A outer s H vs Q E hr h => ?_)
  refine ⟨_, (pss_cons (ps_set (i := 2) sc_walk_of.nd rfl (by first | exact Or.inl rfl | exact Or.inr rfl) (pe_lst (pa_ints (ns := [1]) (by rfl))))
      (pss_cons (ps_set (i := 3) sc_walk_of.nd rfl (by first | exact Or.inl rfl | exact Or.inr rfl) (pe_call (ok_doubled T) (hr.mono (by decide)) rfl T.m_doubled T.F_doubled.kp T.b_doubled .nil pass0 (pa_cons pe_int (pa_cons (pv 0) (pa_cons (pv 1) pa_nil)))))
      (pss_cons (ps_while PassesOwn.never (pt_cmpR op_ne (pv 3) pe_int (nomark _))
        (pss_cons (ps_expr (pe_bm PySem.F.plainAttrs_list PySem.F.slot_list_append PySem.F.type_list_append mt_append (pv 2) (pa_cons (pv 3) pa_nil)))
      (pss_cons (ps_set (i := 3) sc_walk_of.nd rfl (by first | exact Or.inl rfl | exact Or.inr rfl) (pe_call (ok_doubled T) (hr.mono (by decide)) rfl T.m_doubled T.F_doubled.kp T.b_doubled .nil pass0 (pa_cons (pv 3) (pa_cons (pv 0) (pa_cons (pv 1) pa_nil)))))
      pss_nil)))
      (pss_cons (ps_ret (pv 2))
      pss_nil)))), ?_⟩
  refine spO2_body (by show 2 ≤ 4; decide) h (fun B0 hn rule last hp R => ?_)
  replace hn : B0.n = 4 := hn
  try dsimp only at hp
  try dsimp only at R
  -- found = [1]
  refine g_asgO (τ := tInt) (by rw [hn]; decide) (smo_ints (by decide)) (fun found h_found => ?_)
  -- one = doubled(1, rule, last)
  refine g_asg (τ := tInt) (by rw [hn]; decide) (sm_call3 (sma_cons sm_int (sma_cons (sm_var rfl) (sma_cons (sm_var rfl) sma_nil))) (by /- 2.pre_doubled -/ (try dsimp only); first | done | (exact ⟨hp.1.rng, MF.sym1 hp.1.rng, hp.2⟩))) (fun one h_one => ?_)
  try dsimp only at h_one
  -- while one != 1
  refine g_while (S := (List Int) × Int) (fun (s : (List Int) × Int) => (MF.WalkInv rule) s.1 s.2)
    (fun (s : (List Int) × Int) => [(0, .fz tInt rule), (1, .fz tInt last), (2, .cl tInt s.1), (3, .fz tInt s.2)]) (fun (s : (List Int) × Int) => (fun found _ => 300 - found.length) s.1 s.2) _ (found, one) ⟨rfl, rfl, rfl, rfl, trivial⟩ (by /- 3.init -/ (try dsimp only); first | done | (exact MF.walk0 hp.1 h_found h_one)) (fun s hI => (smt_tt (sm_op (sm_var rfl) sm_int ov_neI))) ?_ ?_
  ·
    intro s hW hc
    obtain ⟨found1, one1⟩ := s
    have hW : (MF.WalkInv rule) found1 one1 := hW
    try dsimp only at hW
    try dsimp only at hc
    show G B0 _ [(0, .fz tInt rule), (1, .fz tInt last), (2, .cl tInt found1), (3, .fz tInt one1)] _
    -- found.append(one)
    refine g_append (K := K) rfl (sm_var rfl) (by /- 4.app -/ (try dsimp only); first | done | (have := hW.len hp.1; omega)) (fun found2 h_found2 => ?_)
    -- one = doubled(one, rule, last)
    refine g_asg (τ := tInt) (by rw [hn]; decide) (sm_call3 (sma_cons (sm_var rfl) (sma_cons (sm_var rfl) (sma_cons (sm_var rfl) sma_nil))) (by /- 5.pre_doubled -/ (try dsimp only); first | done | (exact ⟨hp.1.rng, hW.sym hp.1, hp.2⟩))) (fun one2 h_one2 => ?_)
    try dsimp only at h_one2
    exact g_loop (found2, one2) rfl ⟨rfl, rfl, rfl, rfl, trivial⟩ (by /- 3.step -/ (try dsimp only); first | done | (exact hW.step hp.1 hc h_found2 h_one2))
  ·
    intro s hE hc1
    obtain ⟨found3, one3⟩ := s
    have hE : (MF.WalkInv rule) found3 one3 := hE
    try dsimp only at hE
    try dsimp only at hc1
    show G B0 _ [(0, .fz tInt rule), (1, .fz tInt last), (2, .cl tInt found3), (3, .fz tInt one3)] _
    -- return found
    exact g_retC (Le.refl B0) R rfl (by /- 6.ret -/ (try dsimp only); first | done | (exact hE.done hp.1 hc1))
theorem n_rw : ¬ (("rule" : PySem.Str) = "width") := by decide +kernel
theorem n_rl : ¬ (("rule" : PySem.Str) = "last") := by decide +kernel
theorem n_rp : ¬ (("rule" : PySem.Str) = "powers") := by decide +kernel
theorem n_rg : ¬ (("rule" : PySem.Str) = "logs") := by decide +kernel
theorem n_wl : ¬ (("width" : PySem.Str) = "last") := by decide +kernel
theorem n_wp : ¬ (("width" : PySem.Str) = "powers") := by decide +kernel
theorem n_wg : ¬ (("width" : PySem.Str) = "logs") := by decide +kernel
theorem n_lp : ¬ (("last" : PySem.Str) = "powers") := by decide +kernel
theorem n_lg : ¬ (("last" : PySem.Str) = "logs") := by decide +kernel
theorem n_pg : ¬ (("powers" : PySem.Str) = "logs") := by decide +kernel
def fs1 (r : Int) : List (PySem.Str × V) := [("rule", .int r)]
def fs2 (r : Int) : List (PySem.Str × V) := [("rule", .int r), ("width", .int (MF.wd r.toNat : Int))]
def fs3 (r : Int) : List (PySem.Str × V) := [("rule", .int r), ("width", .int (MF.wd r.toNat : Int)), ("last", .int (MF.lastI r))]
def fs4 (r : Int) (p : Addr) : List (PySem.Str × V) := [("rule", .int r), ("width", .int (MF.wd r.toNat : Int)), ("last", .int (MF.lastI r)), ("powers", .ref p)]
def fs5 (r : Int) (p l : Addr) : List (PySem.Str × V) := [("rule", .int r), ("width", .int (MF.wd r.toNat : Int)), ("last", .int (MF.lastI r)), ("powers", .ref p), ("logs", .ref l)]
theorem p2 (r : Int) : putF "width" (.int (MF.wd r.toNat : Int)) (fs1 r) = fs2 r := by unfold fs1 fs2; simp only [putF, if_neg n_rw]
theorem p3 (r : Int) : putF "last" (.int (MF.lastI r)) (fs2 r) = fs3 r := by unfold fs2 fs3; simp only [putF, if_neg n_rl, if_neg n_wl]
theorem p4 (r : Int) (p : Addr) : putF "powers" (.ref p) (fs3 r) = fs4 r p := by unfold fs3 fs4; simp only [putF, if_neg n_rp, if_neg n_wp, if_neg n_lp]
theorem p5 (r : Int) (p l : Addr) : putF "logs" (.ref l) (fs4 r p) = fs5 r p l := by unfold fs4 fs5; simp only [putF, if_neg n_rg, if_neg n_wg, if_neg n_lg, if_neg n_pg]
theorem lk1 {r : Int} : (fs1 r).lookup ("rule" : PySem.Str) = some (.int r) := by unfold fs1; simp [List.lookup]
theorem lk2 {r : Int} : (fs2 r).lookup ("width" : PySem.Str) = some (.int (MF.wd r.toNat : Int)) := by
  have h : (("width" : PySem.Str) == "rule") = false := by decide +kernel
  unfold fs2; simp [List.lookup, h]
theorem lk3 {r : Int} : (fs3 r).lookup ("last" : PySem.Str) = some (.int (MF.lastI r)) := by
  have h : (("last" : PySem.Str) == "rule") = false := by decide +kernel
  have h2 : (("last" : PySem.Str) == "width") = false := by decide +kernel
  unfold fs3; simp [List.lookup, h, h2]
theorem lk4l {r : Int} {p : Addr} : (fs4 r p).lookup ("last" : PySem.Str) = some (.int (MF.lastI r)) := by
  have h : (("last" : PySem.Str) == "rule") = false := by decide +kernel
  have h2 : (("last" : PySem.Str) == "width") = false := by decide +kernel
  unfold fs4; simp [List.lookup, h, h2]
theorem lk4p {r : Int} {p : Addr} : (fs4 r p).lookup ("powers" : PySem.Str) = some (.ref p) := by
  have h : (("powers" : PySem.Str) == "rule") = false := by decide +kernel
  have h2 : (("powers" : PySem.Str) == "width") = false := by decide +kernel
  have h3 : (("powers" : PySem.Str) == "last") = false := by decide +kernel
  unfold fs4; simp [List.lookup, h, h2, h3]
theorem lk5p {r : Int} {p l : Addr} : (fs5 r p l).lookup ("powers" : PySem.Str) = some (.ref p) := by
  have h : (("powers" : PySem.Str) == "rule") = false := by decide +kernel
  have h2 : (("powers" : PySem.Str) == "width") = false := by decide +kernel
  have h3 : (("powers" : PySem.Str) == "last") = false := by decide +kernel
  unfold fs5; simp [List.lookup, h, h2, h3]
theorem lk5g {r : Int} {p l : Addr} : (fs5 r p l).lookup ("logs" : PySem.Str) = some (.ref l) := by
  have h : (("logs" : PySem.Str) == "rule") = false := by decide +kernel
  have h2 : (("logs" : PySem.Str) == "width") = false := by decide +kernel
  have h3 : (("logs" : PySem.Str) == "last") = false := by decide +kernel
  have h4 : (("logs" : PySem.Str) == "powers") = false := by decide +kernel
  unfold fs5; simp [List.lookup, h, h2, h3, h4]
/-- Field(rule) of a good rule: what stands at x from then on -/
def sp_Field___init__ (K : PySem.W.Frag) (a : Ad) : Sp := fun vs H Q _ => ∃ (r : Int) (x dx : Addr), vs = [.ref x, .int r] ∧ MF.GoodI r ∧ H x = some (.ins a.c_Field dx []) ∧
  ∀ (H' : Hp) (p l : Addr), (∀ b o, b ≠ x → H b = some o → H' b = some o) → H p = none → H l = none → p ≠ l → H' x = some (.ins a.c_Field dx (fs5 r p l)) → H' p = some (.lst ((MF.natI (MF.pows r.toNat)).map V.int)) → H' l = some (.lst ((MF.natI (MF.lgs r.toNat)).map V.int)) → Q .non H'
theorem ok_Field___init__ {P : Program} {w : World} {K : PySem.W.Frag} {mg : PySem.Str → Option Value} {base : Heap} {a : Ad} (T : Tx K mg a) : FnOk P w K mg base CX0 3 a.f_Field___init__ a.d_Field___init__ ["self", "rule"] (sp_Field___init__ K a) := by
  refine T.F_Field___init__.ok sc_Field___init__ (fun vs H Q E h => ?_) (fun cdv A outer s H vs Q E hr h => ?_)
  · obtain ⟨r, x, dx, rfl, _⟩ := h
    rfl
  · obtain ⟨r, x, dx, rfl, hg, hx, k⟩ := h
    have g := hg.2
    have g0 := hg.1
    have glo := g.lo
    have ghi := g.hi
    have godd := g.odd
    refine ⟨_, (pss_cons (ps_if (PW.pt (pw_or (pt_not (pt_chain op_le op_lt (pe_gI T.g_LEAST_RULE) (pv 1) (pe_gI T.g_END_OF_RULES))) (pw_or1 (pt_cmpR op_eq (pe_op op_modN (pv 1) pe_int) pe_int (nomark _))))) (pss_cons ps_never pss_nil) pss_nil)
      (pss_cons (ps_fld (pv 0) (pv 1) rfl)
      (pss_cons (ps_fld (pv 0) (pe_op op_sub (pe_bits (pv 1)) pe_int) rfl)
      (pss_cons (ps_fld (pv 0) (pe_op op_sub (pe_op op_shl pe_int (pe_fld (pv 0) rfl)) pe_int) rfl)
      (pss_cons (ps_fld (pv 0) (pe_call (ok_walk_of T) (hr.mono (by decide)) rfl T.m_walk_of T.F_walk_of.kp T.b_walk_of .nil pass0 (pa_cons (pv 1) (pa_cons (pe_fld (pv 0) rfl) pa_nil))) rfl)
      (pss_cons (ps_if (pt_cmpR op_lt (pe_callB call_len_seq (by rfl) T.n_len bb_len (pa_cons (pe_fld (pv 0) rfl) pa_nil)) (pe_fld (pv 0) rfl) (nomark _)) (pss_cons ps_never pss_nil) pss_nil)
      (pss_cons (ps_fld (pv 0) (pe_op op_rep (pe_lst (pa_ints (by rfl))) (pe_op op_add (pe_fld (pv 0) rfl) pe_int)) rfl)
      (pss_cons (ps_for PassesOwn.never rfl (pi_enum (by rfl) T.n_enumerate (pa_cons (pe_fld (pv 0) rfl) pa_nil)) (pg_tup rfl (pgs_cons (pg_name (i := 2) sc_Field___init__.nd rfl (by first | exact Or.inl rfl | exact Or.inr rfl)) (pgs_cons (pg_name (i := 3) sc_Field___init__.nd rfl (by first | exact Or.inl rfl | exact Or.inr rfl)) pgs_nil)))
        (pss_cons (ps_asg (pv 2) (pg_sub (pe_fld (pv 0) rfl) (pv 3) set_list)) pss_nil)) pss_nil)))))))), ?_⟩
    -- the tests
    refine ⟨_, rfl, _, _, rfl, rfl, _, rfl, ?_⟩
    rw [if_pos (decide_eq_true (by omega))]
    refine ⟨_, _, rfl, rfl, _, rfl, ?_⟩
    show (if (!decide (r < 512)) = true then _ else _)
    rw [decide_eq_true (show r < 512 by omega), if_neg (by decide)]
    refine ⟨_, rfl, _, _, rfl, rfl, (by show (2 : Int) ≠ 0; decide), rfl, _, rfl, ?_⟩
    have hodd : (V.int (r.fmod 2) = V.int 0) = False := by
      rw [Int.fmod_eq_emod_of_nonneg _ (by decide)]
      simp only [V.int.injEq, eq_iff_iff, iff_false]
      omega
    show (if decide (V.int (r.fmod 2) = V.int 0) = true then _ else _)
    rw [decide_eq_false (by rw [hodd]; exact fun z => z), if_neg (by decide)]
    -- rule, width, last
    refine ⟨_, rfl, _, rfl, x, a.c_Field, dx, [], rfl, hx, T.C_Field, T.n_Field_rule, by decide, ?_⟩
    show tSeq _ _ _ _ (upd H x (.ins a.c_Field dx (fs1 r)))
    have ew : ((Builtin.Int.intBits r : Nat) : Int) - 1 = (MF.wd r.toNat : Int) := by
      unfold Builtin.Int.intBits
      have : (r == 0) = false := by simpa using (show r ≠ 0 by omega)
      rw [this, if_neg (by decide), show r.natAbs = r.toNat by omega]
      unfold MF.wd
      omega
    refine ⟨_, rfl, r, rfl, _, _, rfl, rfl, _, rfl, x, a.c_Field, dx, fs1 r, rfl, upd_same, T.C_Field, T.n_Field_width, by show 1 < 1000; decide, ?_⟩
    show tSeq _ _ _ _ (upd (upd H x (.ins a.c_Field dx (fs1 r))) x (.ins a.c_Field dx (putF "width" (.int (((Builtin.Int.intBits r : Nat) : Int) - 1)) (fs1 r))))
    rw [ew, upd_upd, p2]
    have w4 := g.rng.w4
    have w8 := g.rng.w8
    refine ⟨_, rfl, x, a.c_Field, dx, fs2 r, _, rfl, upd_same, T.C_Field, T.n_Field_width, lk2, _, _, rfl, rfl, ⟨by omega, by omega, by decide⟩, _, _, rfl, rfl, _, rfl, x, a.c_Field, dx, fs2 r, rfl, upd_same, T.C_Field, T.n_Field_last, by show 2 < 1000; decide, ?_⟩
    have el : (1 : Int) * 2 ^ ((MF.wd r.toNat : Int)).toNat - 1 = MF.lastI r := by
      unfold MF.lastI MF.last
      have := g.rng.p16
      rw [Int.toNat_natCast, Int.one_mul, Int.ofNat_sub (by omega)]
      simp
    show tSeq _ _ _ _ (upd (upd H x (.ins a.c_Field dx (fs2 r))) x (.ins a.c_Field dx (putF "last" (.int ((1 : Int) * 2 ^ ((MF.wd r.toNat : Int)).toNat - 1)) (fs2 r))))
    rw [el, upd_upd, p3]
    -- powers
    have s3 : ∀ fs : List (PySem.Str × V), ∀ b o, b ≠ x → H b = some o → upd H x (.ins a.c_Field dx fs) b = some o := fun fs b o hb e => by rw [upd_ne hb]; exact e
    have l255 := g.rng.l255
    have l15 := g.rng.l15
    refine ⟨_, rfl, _, rfl, x, a.c_Field, dx, fs3 r, _, rfl, upd_same, T.C_Field, T.n_Field_last, lk3, ?_⟩
    refine ⟨r, MF.lastI r, upd H x (.ins a.c_Field dx (fs3 r)), Same.refl _, .cons rfl (.cons rfl .nil), ⟨hg, rfl⟩, fun p us Hv4 H4 g4 e40 e41 e42 r4 => ?_⟩
    have px : p ≠ x := fun q => by rw [q, upd_same] at e40; cases e40
    have p0 : H p = none := by rw [upd_ne px] at e40; exact e40
    have h4x : H4 x = some (.ins a.c_Field dx (fs3 r)) := g4.s _ _ upd_same
    refine ⟨_, rfl, x, a.c_Field, dx, fs3 r, rfl, h4x, T.C_Field, T.n_Field_powers, by show 3 < 1000; decide, ?_⟩
    have eus := paired_int r4
    subst eus
    rw [p4]
    have h5p : upd H4 x (.ins a.c_Field dx (fs4 r p)) p = some (.lst ((MF.natI (MF.pows r.toNat)).map V.int)) := by rw [upd_ne px]; exact e41
    refine ⟨_, rfl, x, a.c_Field, dx, fs4 r p, _, rfl, upd_same, T.C_Field, T.n_Field_powers, lk4p, p, _, rfl, .inl (SqL.of h5p), _, rfl, x, a.c_Field, dx, fs4 r p, _, rfl, upd_same, T.C_Field, T.n_Field_last, lk4l, _, _, rfl, rfl, _, rfl, ?_⟩
    have elen : (((MF.natI (MF.pows r.toNat)).map V.int).length : Int) = MF.lastI r := by
      rw [List.length_map, MF.natI_len, MF.pows_len]
      rfl
    show (if decide ((((MF.natI (MF.pows r.toNat)).map V.int).length : Int) < MF.lastI r) = true then _ else _)
    rw [elen, decide_eq_false (by omega), if_neg (by decide)]
    -- logs
    refine ⟨by decide, fun q0 hq0 => ?_⟩
    have nqx : q0 ≠ x := fun q => by rw [q, upd_same] at hq0; cases hq0
    have sx : Same (upd H4 x (.ins a.c_Field dx (fs4 r p))) (upd (upd H4 x (.ins a.c_Field dx (fs4 r p))) q0 (.lst (([0] : List Int).map V.int))) := same_upd hq0
    refine ⟨_, rfl, x, a.c_Field, dx, fs4 r p, _, rfl, sx _ _ upd_same, T.C_Field, T.n_Field_last, lk4l, _, _, rfl, rfl, q0, MF.lastI r + 1, _, rfl, rfl, upd_same, by unfold MF.lastI; omega, by unfold MF.lastI; omega, by
      show 1 * (MF.lastI r + 1).toNat ≤ sizeLine
      rw [Nat.one_mul]
      exact seq_lt (by unfold MF.lastI; omega), fun l hl => ?_⟩
    have elog : (List.replicate (MF.lastI r + 1).toNat (([0] : List Int).map V.int)).flatten = (MF.natI (List.replicate (MF.last r.toNat + 1) 0)).map V.int := by
      have e1 : (MF.lastI r + 1).toNat = MF.last r.toNat + 1 := by unfold MF.lastI; omega
      rw [e1]
      simp [MF.natI]
    rw [elog]
    have lx : l ≠ x := fun q => by rw [q, upd_ne (Ne.symm nqx), upd_same] at hl; cases hl
    have l0 : H l = none := by
      have z := Same.free sx hl
      rw [upd_ne lx] at z
      have z2 := Same.free g4.s z
      rw [upd_ne lx] at z2
      exact z2
    have hl4 : H4 l = none := by
      have z := Same.free sx hl
      rw [upd_ne lx] at z
      exact z
    have pl : p ≠ l := fun q => by rw [← q, e41] at hl4; cases hl4
    have pq0 : p ≠ q0 := fun q => by rw [← q, h5p] at hq0; cases hq0
    refine ⟨_, rfl, x, a.c_Field, dx, fs4 r p, rfl, by rw [upd_ne (Ne.symm lx)]; exact sx _ _ upd_same, T.C_Field, T.n_Field_logs, by show 4 < 1000; decide, ?_⟩
    rw [p5]
    generalize hH6 : upd (upd (upd (upd H4 x (.ins a.c_Field dx (fs4 r p))) q0 (.lst (([0] : List Int).map V.int))) l (.lst ((MF.natI (List.replicate (MF.last r.toNat + 1) 0)).map V.int))) x (.ins a.c_Field dx (fs5 r p l)) = H6
    have h6x : H6 x = some (.ins a.c_Field dx (fs5 r p l)) := by rw [← hH6, upd_same]
    have h6l : H6 l = some (.lst ((MF.natI (List.replicate (MF.last r.toNat + 1) 0)).map V.int)) := by rw [← hH6, upd_ne lx, upd_same]
    have h6p : H6 p = some (.lst ((MF.natI (MF.pows r.toNat)).map V.int)) := by rw [← hH6, upd_ne px, upd_ne pl, upd_ne pq0]; exact h5p
    have s6 : ∀ b o, b ≠ x → H b = some o → H6 b = some o := fun b o hb e => by
      have e4 : H4 b = some o := g4.s _ _ (s3 _ b o hb e)
      have e5 : upd H4 x (.ins a.c_Field dx (fs4 r p)) b = some o := by rw [upd_ne hb]; exact e4
      rw [← hH6, upd_ne hb, upd_ne (fun q => by rw [q, l0] at e; cases e)]
      exact sx _ _ e5
    -- for many, one in enumerate(self.powers): self.logs[one] = many
    refine ⟨_, rfl, x, a.c_Field, dx, fs5 r p l, _, rfl, h6x, T.C_Field, T.n_Field_powers, lk5p, p, _, rfl, SqL.of h6p, ?_⟩
    refine for_it (walk_enum (K := K) (a := p) (xs := (MF.natI (MF.pows r.toNat)).map V.int)) (fun i σ H' => ∃ (v3 v4 : Option V) (ls : List Nat), σ = [some (.ref x), some (.int r), v3, v4] ∧ H' x = some (.ins a.c_Field dx (fs5 r p l)) ∧ H' p = some (.lst ((MF.natI (MF.pows r.toNat)).map V.int)) ∧ H' l = some (.lst ((MF.natI ls).map V.int)) ∧ (∀ b o, b ≠ x → H b = some o → H' b = some o) ∧ MF.LogInv r.toNat i ls)
      ⟨none, none, _, rfl, h6x, h6p, h6l, s6, MF.logInv0⟩ (fun i σ H' _ ⟨_, _, _, _, _, hp, _⟩ => SqL.of hp) ?_ ?_
    · rintro i v σ H' H'' hi ⟨v3, v4, ls, rfl, hx', hp', hl', hs', hinv⟩ ⟨Tt, xv, yv, rfl, hT, rfl, e1, e2⟩
      cases e1
      rw [List.length_map, MF.natI_len, MF.pows_len] at hi
      have e2' : yv = V.int (MF.pw r.toNat i : Int) := by
        have e2 : ((MF.natI (MF.pows r.toNat)).map V.int)[i]? = some yv := e2
        rw [List.getElem?_map, MF.natI_get (MF.pows_get hi)] at e2
        exact (Option.some.inj e2).symm
      subst e2'
      have sT := same_upd (o := .tup [V.int (i : Nat), V.int (MF.pw r.toNat i : Int)]) hT
      have lT : l ≠ Tt := fun q => by rw [← q, hl'] at hT; cases hT
      have xT : x ≠ Tt := fun q => by rw [← q, hx'] at hT; cases hT
      have pT : p ≠ Tt := fun q => by rw [← q, hp'] at hT; cases hT
      refine ⟨Tt, _, rfl, SqT.of upd_same, rfl, _, _, rfl, _, _, rfl, rfl, ?_⟩
      have hlt := MF.pw_lt g.rng i
      have hl1 := MF.last1 g.rng
      refine ⟨_, rfl, _, rfl, x, a.c_Field, dx, fs5 r p l, _, rfl, sT _ _ hx', T.C_Field, T.n_Field_logs, lk5g, _, rfl, l, _, (MF.pw r.toNat i : Int), MF.pw r.toNat i, rfl, rfl, sT _ _ hl', ?_, ?_⟩
      · unfold ixN
        rw [List.length_map, MF.natI_len, hinv.len, if_pos (by omega), if_pos (by omega), Int.toNat_natCast]
      · refine ⟨_, _, ls.set (MF.pw r.toNat i) i, rfl, ?_, ?_, ?_, ?_, hinv.step g hi⟩
        · rw [upd_ne (Ne.symm lx)]
          exact sT _ _ hx'
        · rw [upd_ne pl]
          exact sT _ _ hp'
        · rw [upd_same]
          simp [MF.natI, List.map_set]
        · intro b o hb e
          rw [upd_ne (fun q => by rw [q, l0] at e; cases e)]
          exact sT _ _ (hs' b o hb e)
    · rintro σ H' ⟨v3, v4, ls, rfl, hx', hp', hl', hs', hinv⟩
      rw [List.length_map, MF.natI_len, MF.pows_len] at hinv
      rw [hinv.done g] at hl'
      exact k H' p l hs' p0 l0 pl hx' hp' hl'
theorem sm_make_Field {K : PySem.W.Frag} {mg : PySem.Str → Option Value} {a : Ad} {B : Bs} {Γ : Cxt} {t : TA} {E : XK} (T : Tx K mg a) {r : Int} (ha : SmA B Γ t [⟨tInt, r⟩]) (hp : MF.GoodI r) : Sm B Γ (tMake a.c_Field (sp_Field___init__ K a) [] E t) (tField a) r := fun σ Hv H w Q k =>
  ha σ Hv H w _ fun vs Hv1 H1 g1 rs => fun x dx hx hdx ndx => by
    cases rs with
    | cons r1 rn =>
      cases rn
      cases r1
      show sp_Field___init__ K a [.ref x, .int r] _ _ _
      have vx := Same.free g1.vis hx
      refine ⟨r, x, dx, rfl, hp, upd_same, fun H' p l s p0 l0 pl hx' hp' hl' => ⟨rfl, ?_⟩⟩
      have s0 : Same H1 H' := fun b o e => by
        have hb : b ≠ x := ne_of_none e hx
        refine s b o hb ?_
        rw [upd_ne hb, upd_ne (ne_of_none e hdx)]
        exact e
      have px : p ≠ x := fun q => by rw [q, upd_same] at p0; cases p0
      have lx : l ≠ x := fun q => by rw [q, upd_same] at l0; cases l0
      have pd : p ≠ dx := fun q => by rw [q, upd_ne ndx, upd_same] at p0; cases p0
      have ld : l ≠ dx := fun q => by rw [q, upd_ne ndx, upd_same] at l0; cases l0
      have p1 : H1 p = none := by rw [upd_ne px, upd_ne pd] at p0; exact p0
      have l1 : H1 l = none := by rw [upd_ne lx, upd_ne ld] at l0; exact l0
      have q1 := same_upd (o := .lst ((MF.natI (MF.pows r.toNat)).map V.int)) (Same.free g1.vis p1)
      have lv : upd Hv1 p (.lst ((MF.natI (MF.pows r.toNat)).map V.int)) l = none := by rw [upd_ne (Ne.symm pl)]; exact Same.free g1.vis l1
      have q2 := same_upd (o := .lst ((MF.natI (MF.lgs r.toNat)).map V.int)) lv
      have xv : upd (upd Hv1 p (.lst ((MF.natI (MF.pows r.toNat)).map V.int))) l (.lst ((MF.natI (MF.lgs r.toNat)).map V.int)) x = none := by rw [upd_ne (Ne.symm lx), upd_ne (Ne.symm px)]; exact vx
      have q3 := same_upd (o := .ins a.c_Field dx (fs5 r p l)) xv
      have sv : Same Hv1 (upd (upd (upd Hv1 p (.lst ((MF.natI (MF.pows r.toNat)).map V.int))) l (.lst ((MF.natI (MF.lgs r.toNat)).map V.int))) x (.ins a.c_Field dx (fs5 r p l))) := Same.trans q1 (Same.trans q2 q3)
      refine k (.ref x) (upd (upd (upd Hv1 p (.lst ((MF.natI (MF.pows r.toNat)).map V.int))) l (.lst ((MF.natI (MF.lgs r.toNat)).map V.int))) x (.ins a.c_Field dx (fs5 r p l))) H' (g1.trans ⟨s0, sv, ?_, ?_⟩) ?_
      · intro b o e
        by_cases hb : b = x
        · subst hb
          rw [upd_same] at e
          cases e
          exact hx'
        · rw [upd_ne hb] at e
          by_cases hb2 : b = l
          · subst hb2
            rw [upd_same] at e
            cases e
            exact hl'
          · rw [upd_ne hb2] at e
            by_cases hb3 : b = p
            · subst hb3
              rw [upd_same] at e
              cases e
              exact hp'
            · rw [upd_ne hb3] at e
              exact s0 _ _ (g1.vis _ _ e)
      · intro b n z
        rw [upd_ne (fun q => n (by rw [q]; exact hx)), upd_ne (fun q => n (by rw [q]; exact l1)), upd_ne (fun q => n (by rw [q]; exact p1))]
        exact z
      · exact ⟨x, dx, fs5 r p l, rfl, upd_same, .cons rfl (.cons rfl (.cons rfl (.cons ⟨p, _, rfl, Same.trans q2 q3 _ _ upd_same, int_paired⟩ (.cons ⟨l, _, rfl, q3 _ _ upd_same, int_paired⟩ .nil))))⟩
def sp_Blocks___init__ (K : PySem.W.Frag) (a : Ad) : Sp := spIX2 (exL a) (tField a) tInt (fun r m => MF.GoodI r) a.c_Blocks (schBlocks a) (fun r m => MF.blkX ix_NoShape r m)
set_option maxHeartbeats 4000000 in
theorem ok_Blocks___init__ {P : Program} {w : World} {K : PySem.W.Frag} {mg : PySem.Str → Option Value} {base : Heap} {a : Ad} (T : Tx K mg a) : FnOk P w K mg base (L2.CX P w) 3 a.f_Blocks___init__ a.d_Blocks___init__ ["self", "field", "many"] (sp_Blocks___init__ K a) := by
  refine T.F_Blocks___init__.okX sc_Blocks___init__ (fun vs H Q E h => spIX2_len h) (fun cdv A outer s H vs Q E hr h => ?_)
  refine ⟨_, (pss_cons (ps_if (pt_not (pt_chain op_le op_le pe_int (pv 2) (pe_gI T.g_MOST_SYMBOLS))) (pss_cons (ps_rs rfl (takes_of rfl rfl rfl rfl) (pmk_own PySem.F.excBase_ValueError T.q_NoShape T.m_NoShape T.kx_NoShape (raises_own T.X_NoShape.hs T.X_NoShape.ty) rfl)) pss_nil) pss_nil)
      (pss_cons (ps_fld (pv 0) (pv 1) rfl)
      (pss_cons (ps_fld (pv 0) (pv 2) rfl)
      (pss_cons (ps_fld (pv 0) (pe_op op_shl pe_int (pe_op op_mul (pe_fld (pv 1) rfl) (pv 2))) rfl)
      (pss_cons (ps_fld (pv 0) (pe_op op_fdivN (pe_op op_sub (pe_fld (pv 0) rfl) pe_int) (pe_fld (pv 1) rfl)) rfl)
      pss_nil))))), ?_⟩
  refine spIX2_body (by show 3 ≤ 3; decide) h (fun B0 hn p dx field many hp R => ?_)
  replace hn : B0.n = 3 := hn
  try dsimp only at hp
  try dsimp only at R
  -- if not 1 <= many <= MOST_SYMBOLS
  refine g_if (smt_not (smt_tt (sm_chain sm_int (sm_var rfl) ov_le (fun _ => sm_int) (fun _ => ov_le)))) (fun hc => ?_) (fun hc => ?_)
  ·
    refine g_assoc ?_
    -- raise NoShape('one to sixteen symbols')
    exact g_raise (smr_own (show (exL a)[4]? = some (a.x_NoShape, []) from rfl)) (R.er (Le.refl B0) (by /- 2.raise -/ (try dsimp only); first | done | (exact MF.blkX_er (fun h => by have h1 := h.1; have h2 := h.2; simp at hc; omega))))
  ·
    have hm : MF.ManyI many := by simpa [MF.ManyI] using hc
    have hm1 := hm.1
    have hm2 := hm.2
    have w4 := hp.2.rng.w4
    have w8 := hp.2.rng.w8
    have hwm := MF.wm_le hp.rng hm
    have hl := MF.lastI_pos hp
    have hl2 := hp.2.rng.l255
    refine g_next ?_
    -- self.field = field
    refine g_fld (τ := (tField a)) rfl [] rfl (by decide +kernel) T.C_Blocks T.n_Blocks_field (by show 0 < 900; decide) (sm_var rfl) (fun field1 h_field1 => ?_)
    -- self.many = many
    refine g_fld (τ := tInt) rfl ["field"] rfl (by decide +kernel) T.C_Blocks T.n_Blocks_many (by show 1 < 900; decide) (sm_var rfl) (fun many1 h_many1 => ?_)
    -- self.limit = 1 << field.width * many
    refine g_fld (τ := tInt) rfl ["field", "many"] rfl (by decide +kernel) T.C_Blocks T.n_Blocks_limit (by show 2 < 900; decide) (sm_op sm_int (sm_op (fld_Field_width T (sm_var rfl)) (sm_var rfl) (ov_mulR (by /- 5.mul -/ (try dsimp only); first | done | (omega)))) (ov_shl (by /- 5.shl -/ (try dsimp only); first | done | (have e : ((MF.wd field.toNat : Int) * many).toNat = MF.wd field.toNat * many.toNat := (by obtain ⟨k, rfl⟩ := Int.eq_ofNat_of_zero_le (show 0 ≤ many by omega); show (((MF.wd field.toNat : Nat) : Int) * (k : Int)).toNat = _; rw [← Int.natCast_mul, Int.toNat_natCast]; rfl); have e0 : 0 ≤ (MF.wd field.toNat : Int) * many := Int.mul_nonneg (by omega) (by omega); exact ⟨e0, by omega, by decide⟩)))) (fun limit h_limit => ?_)
    -- self.ones = (self.limit - 1) // field.last
    refine g_fld (τ := tInt) rfl ["field", "many", "limit"] rfl (by decide +kernel) T.C_Blocks T.n_Blocks_ones (by show 3 < 900; decide) (sm_op (sm_op (sm_fldO rfl ["field", "many", "limit"] 2 (by decide +kernel) rfl T.C_Blocks T.n_Blocks_limit rfl) sm_int ov_sub) (fld_Field_last T (sm_var rfl)) (ov_fdiv (by /- 6.div -/ (try dsimp only); first | done | (unfold MF.lastI at *; omega)))) (fun ones h_ones => ?_)
    exact g_endI (Le.refl B0) (R.ok (by /- 0.endok -/ (try dsimp only); first | done | (exact MF.blkX_ok hm))) rfl rfl (by /- 0.end -/ (try dsimp only); first | done | (rw [h_field1] at *; rw [h_many1] at *; rw [h_limit] at *; rw [h_ones]; rw [MF.lim_eq (by omega), MF.ones_eq hp.rng]; rfl))
def sp_Blocks_good (K : PySem.W.Frag) (a : Ad) : Sp := spF2 (tBlocks a) tInt (fun _ _ => True) tBool (fun bl b => decide (0 ≤ b) && decide (b < MF.limI bl.1 bl.2))
set_option maxHeartbeats 4000000 in
theorem ok_Blocks_good {P : Program} {w : World} {K : PySem.W.Frag} {mg : PySem.Str → Option Value} {base : Heap} {a : Ad} (T : Tx K mg a) : FnOk P w K mg base CX0 1 a.f_Blocks_good a.d_Blocks_good ["self", "block"] (sp_Blocks_good K a) := by
  refine T.F_Blocks_good.ok sc_Blocks_good (fun vs H Q E h => spF2_len h) (fun cdv A outer s H vs Q E hr h => ?_)
  refine ⟨_, (pss_cons (ps_ret (pe_chain op_le op_lt pe_int (pv 1) (pe_fld (pv 0) rfl)))
      pss_nil), ?_⟩
  refine spF2_body (by show 2 ≤ 2; decide) h (fun B0 hn self block hp R => ?_)
  replace hn : B0.n = 2 := hn
  try dsimp only at hp
  try dsimp only at R
  -- return 0 <= block < self.limit
  exact g_ret (Le.refl B0) R (sm_chain sm_int (sm_var rfl) ov_le (fun _ => (fld_Blocks_limit T (sm_var rfl))) (fun _ => ov_lt)) (by /- 1.ret -/ (try dsimp only); first | done | (walk_at "vc"))
def sp_Blocks_symbols (K : PySem.W.Frag) (a : Ad) : Sp := spO2 (tBlocks a) tInt (fun bl b => MF.GoodI bl.1 ∧ MF.ManyI bl.2 ∧ 0 ≤ b) tInt (fun bl b => MF.symsI bl.1 bl.2 b)
set_option maxHeartbeats 4000000 in
theorem ok_Blocks_symbols {P : Program} {w : World} {K : PySem.W.Frag} {mg : PySem.Str → Option Value} {base : Heap} {a : Ad} (T : Tx K mg a) : FnOk P w K mg base CX0 1 a.f_Blocks_symbols a.d_Blocks_symbols ["self", "block"] (sp_Blocks_symbols K a) := by
  refine T.F_Blocks_symbols.ok sc_Blocks_symbols (fun vs H Q E h => spO2_len h) (fun cdv A outer s H vs Q E hr h => ?_)
  refine ⟨_, (pss_cons (ps_set (i := 2) sc_Blocks_symbols.nd rfl (by first | exact Or.inl rfl | exact Or.inr rfl) (pe_lst pa_nil))
      (pss_cons (ps_for PassesOwn.never rfl (pi_range1 rfl T.n_range (pa_cons (pe_fld (pv 0) rfl) pa_nil)) (pg_name (i := 3) sc_Blocks_symbols.nd rfl (by first | exact Or.inl rfl | exact Or.inr rfl))
        (pss_cons (ps_expr (pe_bm PySem.F.plainAttrs_list PySem.F.slot_list_append PySem.F.type_list_append mt_append (pv 2) (pa_cons (pe_op op_and (pe_op op_shr (pv 1) (pe_op op_mul (pe_fld (pe_fld (pv 0) rfl) rfl) (pv 3))) (pe_fld (pe_fld (pv 0) rfl) rfl)) pa_nil)))
      pss_nil))
      (pss_cons (ps_ret (pv 2))
      pss_nil))), ?_⟩
  refine spO2_body (by show 2 ≤ 4; decide) h (fun B0 hn self block hp R => ?_)
  replace hn : B0.n = 4 := hn
  try dsimp only at hp
  try dsimp only at R
  have hm1 := hp.2.1.1
  have hm2 := hp.2.1.2
  have w8 := hp.1.2.rng.w8
  -- found = []
  refine g_asgO (τ := tInt) (by rw [hn]; decide) (smo_lst SmI.nil (by decide)) (fun found h_found => ?_)
  -- for place in range(self.many)
  refine g_for (S := (List Int)) (τ := tInt) (smw_range1 (fld_Blocks_many T (sm_var rfl)) (by /- 2.range -/ (try dsimp only); first | done | (omega))) (fun B1 hB => (tgt_name (by rw [hB, hn]; decide))) (fun (i : Nat) (s : (List Int)) => (fun i found => found = ((rangeL 0 self.2).take i).map fun k => ((block.toNat / 2 ^ (MF.wd self.1.toNat * k.toNat) % 2 ^ MF.wd self.1.toNat : Nat) : Int)) i s)
    (fun (s : (List Int)) => [(0, .fz (tBlocks a) self), (1, .fz tInt block), (2, .cl tInt s)]) found ⟨rfl, rfl, rfl, trivial⟩ (by /- 2.init -/ (try dsimp only); first | done | (rw [h_found]; rfl)) ?_ ?_
  ·
    intro BL le_BL i found1 x hx_x hI_x
    have hI_x : (fun i found => found = ((rangeL 0 self.2).take i).map fun k => ((block.toNat / 2 ^ (MF.wd self.1.toNat * k.toNat) % 2 ^ MF.wd self.1.toNat : Nat) : Int)) i found1 := hI_x
    try dsimp only at hI_x
    have hn_BL : BL.n = 4 := le_BL.n.trans hn
    show G BL _ [(3, .fz tInt x), (0, .fz (tBlocks a) self), (1, .fz tInt block), (2, .cl tInt found1)] _
    obtain ⟨hx_lt, hx_e⟩ := rangeL0_iff.mp hx_x
    -- found.append(block >> self.field.width * place & self.field.last)
    refine g_append (K := K) rfl (sm_op (sm_op (sm_var rfl) (sm_op (fld_Field_width T (fld_Blocks_field T (sm_var rfl))) (sm_var rfl) (ov_mulR (by /- 3.mul -/ (try dsimp only); first | done | (omega)))) (ov_shr (by /- 3.shr -/ (try dsimp only); first | done | (exact Int.mul_nonneg (by omega) (by omega))))) (fld_Field_last T (fld_Blocks_field T (sm_var rfl))) ov_and) (by /- 3.app -/ (try dsimp only); first | done | (rw [hI_x, List.length_map, List.length_take, rangeL_len]; omega)) (fun found2 h_found2 => ?_)
    exact g_loop found2 rfl ⟨rfl, rfl, rfl, trivial⟩ (by /- 2.step -/ (try dsimp only); first | done | (rw [h_found2, hI_x, MF.map_step hx_x, MF.sym_step hp.1.rng hp.2.2 (by omega)]))
  ·
    intro found3 hE
    try dsimp only at hE
    show G B0 _ [(0, .fz (tBlocks a) self), (1, .fz tInt block), (2, .cl tInt found3)] _
    -- return found
    exact g_retC (Le.refl B0) R rfl (by /- 4.ret -/ (try dsimp only); first | done | (rw [hE, List.take_length]; rfl))
def sp_Blocks_joined (K : PySem.W.Frag) (a : Ad) : Sp := spF2 (tBlocks a) (tList tInt) (fun bl l => MF.GoodI bl.1 ∧ MF.AllSym bl.1 l ∧ l.length ≤ 16) tInt (fun bl l => MF.joinI bl.1 l)
set_option maxHeartbeats 4000000 in
theorem ok_Blocks_joined {P : Program} {w : World} {K : PySem.W.Frag} {mg : PySem.Str → Option Value} {base : Heap} {a : Ad} (T : Tx K mg a) : FnOk P w K mg base CX0 1 a.f_Blocks_joined a.d_Blocks_joined ["self", "some"] (sp_Blocks_joined K a) := by
  refine T.F_Blocks_joined.ok sc_Blocks_joined (fun vs H Q E h => spF2_len h) (fun cdv A outer s H vs Q E hr h => ?_)
  refine ⟨_, (pss_cons (ps_set (i := 2) sc_Blocks_joined.nd rfl (by first | exact Or.inl rfl | exact Or.inr rfl) pe_int)
      (pss_cons (ps_for PassesOwn.never rfl (pi_reversed (by rfl) T.n_reversed (pa_cons (pv 1) pa_nil)) (pg_name (i := 3) sc_Blocks_joined.nd rfl (by first | exact Or.inl rfl | exact Or.inr rfl))
        (pss_cons (ps_set (i := 2) sc_Blocks_joined.nd rfl (by first | exact Or.inl rfl | exact Or.inr rfl) (pe_op op_or (pe_op op_shlW (pv 2) (pe_fld (pe_fld (pv 0) rfl) rfl)) (pv 3)))
      pss_nil))
      (pss_cons (ps_ret (pv 2))
      pss_nil))), ?_⟩
  refine spF2_body (by show 2 ≤ 4; decide) h (fun B0 hn self some hp R => ?_)
  replace hn : B0.n = 4 := hn
  try dsimp only at hp
  try dsimp only at R
  have w4 := hp.1.2.rng.w4
  have w8 := hp.1.2.rng.w8
  -- block = 0
  refine g_asg (τ := tInt) (by rw [hn]; decide) sm_int (fun block h_block => ?_)
  -- for symbol in reversed(some)
  refine g_for (S := Int) (τ := tInt) (smw_revF (sm_var rfl)) (fun B1 hB => (tgt_name (by rw [hB, hn]; decide))) (fun (i : Nat) (s : Int) => (fun i b => b = (some.reverse.take i).foldl (fun a s => a * (MF.lastI self.1 + 1) + s) 0) i s)
    (fun (s : Int) => [(0, .fz (tBlocks a) self), (1, .fz (tList tInt) some), (2, .fz tInt s)]) block ⟨rfl, rfl, rfl, trivial⟩ (by /- 2.init -/ (try dsimp only); first | done | (rw [h_block]; rfl)) ?_ ?_
  ·
    intro BL le_BL i block1 x hx_x hI_x
    have hI_x : (fun i b => b = (some.reverse.take i).foldl (fun a s => a * (MF.lastI self.1 + 1) + s) 0) i block1 := hI_x
    try dsimp only at hI_x
    have hn_BL : BL.n = 4 := le_BL.n.trans hn
    show G BL _ [(3, .fz tInt x), (0, .fz (tBlocks a) self), (1, .fz (tList tInt) some), (2, .fz tInt block1)] _
    have hs := MF.get_sym (MF.rev_sym hp.2.1) hx_x
    have hf := MF.fold_lt hp.1.rng (MF.take_sym (MF.rev_sym hp.2.1) i)
    rw [← hI_x] at hf
    have hlen := MF.wd_len (r := self.1) w8 (show (some.reverse.take i).length ≤ 16 by rw [List.length_take, List.length_reverse]; have := hp.2.2; omega)
    have hbb : block1.natAbs < 2 ^ 128 := by have := Nat.lt_of_lt_of_le hf.2 (Nat.pow_le_pow_right (by decide) hlen); have := hf.1; omega
    -- block = block << self.field.width | symbol
    refine g_asg (τ := tInt) (by rw [hn_BL]; decide) (sm_op (sm_op (sm_var rfl) (fld_Field_width T (fld_Blocks_field T (sm_var rfl))) (ov_shlW (by /- 3.shl -/ (try dsimp only); first | done | (exact shlW 128 hbb (by omega) (by omega))))) (sm_var rfl) ov_or) (fun block2 h_block2 => ?_)
    exact g_loop block2 rfl ⟨rfl, rfl, rfl, trivial⟩ (by /- 2.step -/ (try dsimp only); first | done | (rw [h_block2, MF.join_step hp.1.rng hf.1 hs, hI_x]; exact (MF.fold_step (f := fun a s => a * (MF.lastI self.1 + 1) + s) hx_x).symm))
  ·
    intro block3 hE
    try dsimp only at hE
    show G B0 _ [(0, .fz (tBlocks a) self), (1, .fz (tList tInt) some), (2, .fz tInt block3)] _
    -- return block
    exact g_ret (Le.refl B0) R (sm_var rfl) (by /- 4.ret -/ (try dsimp only); first | done | (rw [hE, List.take_length]; exact MF.rev_fold))
def sp_cell_at (K : PySem.W.Frag) (a : Ad) : Sp := spF2 (tScr K) tInt (fun _ k => 0 ≤ k) tInt (fun s k => MF.cellI s k)
set_option maxHeartbeats 4000000 in
theorem ok_cell_at {P : Program} {w : World} {K : PySem.W.Frag} {mg : PySem.Str → Option Value} {base : Heap} {a : Ad} (T : Tx K mg a) : FnOk P w K mg base CX0 1 a.f_cell_at a.d_cell_at ["_law_script", "_law_k"] (sp_cell_at K a) := by
  refine T.F_cell_at.ok sc_cell_at (fun vs H Q E h => spF2_len h) (fun cdv A outer s H vs Q E hr h => ?_)
  refine ⟨_, (pss_cons (ps_if (pt_cmpR op_lt (pv 1) (pe_callB call_len_seq (by rfl) T.n_len bb_len (pa_cons (pv 0) pa_nil)) (nomark _)) (pss_cons (ps_ret (pe_ix ix_list (pv 0) (pv 1) (fun _ _ => rfl))) pss_nil) pss_nil)
      (pss_cons (ps_ret pe_int)
      pss_nil)), ?_⟩
  refine spF2_body (by show 2 ≤ 2; decide) h (fun B0 hn script k hp R => ?_)
  replace hn : B0.n = 2 := hn
  try dsimp only at hp
  try dsimp only at R
  -- if _law_k < len(_law_script)
  refine g_if (smt_tt (sm_op (sm_var rfl) (sm_lenScr (sm_var rfl)) ov_lt)) (fun hc => ?_) (fun hc => ?_)
  ·
    refine g_assoc ?_
    -- return _law_script[_law_k]
    exact g_ret (Le.refl B0) R (sm_ixScr (sm_var rfl) (sm_var rfl) (by /- 2.ix0 -/ (try dsimp only); first | done | (exact hp)) (by /- 2.ix -/ (try dsimp only); first | done | (exact MF.cell_ix hp hc))) (by /- 2.ret -/ (try dsimp only); first | done | (rfl))
  ·
    refine g_next ?_
    -- return 0
    exact g_ret (Le.refl B0) R sm_int (by /- 3.ret -/ (try dsimp only); first | done | (exact MF.cell_out hc))
def sp_whole (K : PySem.W.Frag) (a : Ad) : Sp := spF2 tInt tInt (fun _ _ => True) tBool (fun f d => decide (f = d))
set_option maxHeartbeats 4000000 in
theorem ok_whole {P : Program} {w : World} {K : PySem.W.Frag} {mg : PySem.Str → Option Value} {base : Heap} {a : Ad} (T : Tx K mg a) : FnOk P w K mg base CX0 1 a.f_whole a.d_whole ["_law_found", "_law_due"] (sp_whole K a) := by
  refine T.F_whole.ok sc_whole (fun vs H Q E h => spF2_len h) (fun cdv A outer s H vs Q E hr h => ?_)
  refine ⟨_, (pss_cons (ps_ret (pe_and (pe_callB call_isi (by rfl) T.n_isinstance bb_isinstance (pa_cons (pv 0) (pa_cons (pe_ty T.n_int bb_int) pa_nil))) (pe_and (pe_not (pe_callB call_isi (by rfl) T.n_isinstance bb_isinstance (pa_cons (pv 0) (pa_cons (pe_ty T.n_bool bb_bool) pa_nil)))) (pe_one (pe_cmpR op_eq (pv 0) (pv 1) (nomark _))))))
      pss_nil), ?_⟩
  refine spF2_body (by show 2 ≤ 2; decide) h (fun B0 hn found due hp R => ?_)
  replace hn : B0.n = 2 := hn
  try dsimp only at hp
  try dsimp only at R
  -- return isinstance(_law_found, int) and (not isinstance(_law_found, bool)) and (_law_found == _law_due)
  exact g_ret (Le.refl B0) R (sm_andV (sm_isi (b := true) (sm_var rfl) ti_int (by decide +kernel)) (fun hb => (sm_andV (sm_notV (sm_isi (b := false) (sm_var rfl) ti_int (by decide +kernel))) (fun hb => (sm_op (sm_var rfl) (sm_var rfl) ov_eqI))))) (by /- 1.ret -/ (try dsimp only); first | done | (simp))
def sp_rule_by (K : PySem.W.Frag) (a : Ad) : Sp := spF1 tInt (fun _ => True) tInt (fun c => MF.ruleI c)
set_option maxHeartbeats 4000000 in
theorem ok_rule_by {P : Program} {w : World} {K : PySem.W.Frag} {mg : PySem.Str → Option Value} {base : Heap} {a : Ad} (T : Tx K mg a) : FnOk P w K mg base CX0 1 a.f_rule_by a.d_rule_by ["_law_cell"] (sp_rule_by K a) := by
  refine T.F_rule_by.ok sc_rule_by (fun vs H Q E h => spF1_len h) (fun cdv A outer s H vs Q E hr h => ?_)
  refine ⟨_, (pss_cons (ps_set (i := 1) sc_rule_by.nd rfl (by first | exact Or.inl rfl | exact Or.inr rfl) (pe_lst (pa_ints (ns := [19, 25, 37, 41, 47, 55, 59, 61, 67, 91, 97, 103, 109, 115, 131, 137, 143, 145, 157, 167, 171, 185, 191, 193]) (by rfl))))
      (pss_cons (ps_set (i := 1) sc_rule_by.nd rfl (by first | exact Or.inl rfl | exact Or.inr rfl) (pe_op op_cat (pv 1) (pe_lst (pa_ints (ns := [203, 211, 213, 229, 239, 241, 247, 253, 285, 299, 301, 333, 351, 355, 357, 361, 369, 391, 397, 425]) (by rfl)))))
      (pss_cons (ps_set (i := 1) sc_rule_by.nd rfl (by first | exact Or.inl rfl | exact Or.inr rfl) (pe_op op_cat (pv 1) (pe_lst (pa_ints (ns := [451, 463, 487, 501]) (by rfl)))))
      (pss_cons (ps_ret (pe_ix ix_list (pv 1) (pe_op op_modN (pv 0) pe_int) (fun _ _ => rfl)))
      pss_nil)))), ?_⟩
  refine spF1_body (by show 1 ≤ 2; decide) h (fun B0 hn cell hp R => ?_)
  replace hn : B0.n = 2 := hn
  try dsimp only at hp
  try dsimp only at R
  -- _law_some = [19, 25, 37, 41, 47, 55, 59, 61, 67, 91, 97, 103, 109, 115, 131, 137, 143, 145, 157, 167, 171, 185, 191, 193]
  refine g_asg (τ := (tList tInt)) (by rw [hn]; decide) (Sm.of_own (smo_ints (by decide))) (fun some h_some => ?_)
  -- _law_some = _law_some + [203, 211, 213, 229, 239, 241, 247, 253, 285, 299, 301, 333, 351, 355, 357, 361, 369, 391, 397, 425]
  refine g_asg (τ := (tList tInt)) (by rw [hn]; decide) (Sm.of_own (smo_cat (SmL.of (sm_var rfl)) (SmL.of_own (smo_ints (by decide))) (by /- 2.cat -/ (try dsimp only); first | done | (rw [h_some]; decide)))) (fun some1 h_some1 => ?_)
  -- _law_some = _law_some + [451, 463, 487, 501]
  refine g_asg (τ := (tList tInt)) (by rw [hn]; decide) (Sm.of_own (smo_cat (SmL.of (sm_var rfl)) (SmL.of_own (smo_ints (by decide))) (by /- 3.cat -/ (try dsimp only); first | done | (rw [h_some1, h_some]; decide)))) (fun some2 h_some2 => ?_)
  -- return _law_some[_law_cell % 48]
  exact g_ret (Le.refl B0) R (sm_ix (SmL.of (sm_var rfl)) (sm_op (sm_var rfl) sm_int (ov_modP (by /- 4.mod -/ (try dsimp only); first | done | (walk_at "vc")))) (by /- 4.ix0 -/ (try dsimp only); first | done | (omega)) (by /- 4.ix -/ (try dsimp only); first | done | (rw [h_some2, h_some1, h_some]; exact MF.rule_ix cell))) (by /- 4.ret -/ (try dsimp only); first | done | (rfl))
def sp_top (K : PySem.W.Frag) (a : Ad) : Sp := spF1 tInt (fun rule => MF.RngI rule) tInt (fun rule => MF.lastI rule + 1)
set_option maxHeartbeats 4000000 in
theorem ok_top {P : Program} {w : World} {K : PySem.W.Frag} {mg : PySem.Str → Option Value} {base : Heap} {a : Ad} (T : Tx K mg a) : FnOk P w K mg base CX0 1 a.f_top a.d_top ["_law_rule"] (sp_top K a) := by
  refine T.F_top.ok sc_top (fun vs H Q E h => spF1_len h) (fun cdv A outer s H vs Q E hr h => ?_)
  refine ⟨_, (pss_cons (ps_set (i := 1) sc_top.nd rfl (by first | exact Or.inl rfl | exact Or.inr rfl) pe_int)
      (pss_cons (ps_while PassesOwn.never (pt_cmpR op_le (pe_op op_mul (pv 1) pe_int) (pv 0) (nomark _))
        (pss_cons (ps_set (i := 1) sc_top.nd rfl (by first | exact Or.inl rfl | exact Or.inr rfl) (pe_op op_mul (pv 1) pe_int))
      pss_nil))
      (pss_cons (ps_ret (pv 1))
      pss_nil))), ?_⟩
  refine spF1_body (by show 1 ≤ 2; decide) h (fun B0 hn rule hp R => ?_)
  replace hn : B0.n = 2 := hn
  try dsimp only at hp
  try dsimp only at R
  -- _law_top_here = 16
  refine g_asg (τ := tInt) (by rw [hn]; decide) sm_int (fun top_here h_top_here => ?_)
  -- while _law_top_here * 2 <= _law_rule
  refine g_while (S := Int) (fun (s : Int) => (MF.TopInv rule) s)
    (fun (s : Int) => [(0, .fz tInt rule), (1, .fz tInt s)]) (fun (s : Int) => (fun t => 1024 - t.toNat) s) _ top_here ⟨rfl, rfl, trivial⟩ (by /- 2.init -/ (try dsimp only); first | done | (exact MF.top0 hp h_top_here)) (fun s hI => (smt_tt (sm_op (sm_op (sm_var rfl) sm_int (ov_mulR (by /- 2.mul -/ (try dsimp only); first | done | (constructor <;> decide)))) (sm_var rfl) ov_le))) ?_ ?_
  ·
    intro top_here1 hW hc
    have hW : (MF.TopInv rule) top_here1 := hW
    try dsimp only at hW
    try dsimp only at hc
    show G B0 _ [(0, .fz tInt rule), (1, .fz tInt top_here1)] _
    -- _law_top_here = _law_top_here * 2
    refine g_asg (τ := tInt) (by rw [hn]; decide) (sm_op (sm_var rfl) sm_int (ov_mulR (by /- 3.mul -/ (try dsimp only); first | done | (constructor <;> decide)))) (fun top_here2 h_top_here2 => ?_)
    exact g_loop top_here2 rfl ⟨rfl, rfl, trivial⟩ (by /- 2.step -/ (try dsimp only); first | done | (exact hW.step hp hc h_top_here2))
  ·
    intro top_here3 hE hc1
    have hE : (MF.TopInv rule) top_here3 := hE
    try dsimp only at hE
    try dsimp only at hc1
    show G B0 _ [(0, .fz tInt rule), (1, .fz tInt top_here3)] _
    -- return _law_top_here
    exact g_ret (Le.refl B0) R (sm_var rfl) (by /- 4.ret -/ (try dsimp only); first | done | (exact hE.done hp hc1))
def sp_mixed (K : PySem.W.Frag) (a : Ad) : Sp := spF2 tInt tInt (fun _ k => 0 ≤ k ∧ k ≤ 100) tInt (fun c k => ((c % 2147483629 + 48271) * (7919 * k + 104729) % 2147483647) ^ 5 % 2147483629 / 16 % 65537)
set_option maxHeartbeats 4000000 in
theorem ok_mixed {P : Program} {w : World} {K : PySem.W.Frag} {mg : PySem.Str → Option Value} {base : Heap} {a : Ad} (T : Tx K mg a) : FnOk P w K mg base CX0 1 a.f_mixed a.d_mixed ["_law_cell", "_law_k"] (sp_mixed K a) := by
  refine T.F_mixed.ok sc_mixed (fun vs H Q E h => spF2_len h) (fun cdv A outer s H vs Q E hr h => ?_)
  refine ⟨_, (pss_cons (ps_set (i := 2) sc_mixed.nd rfl (by first | exact Or.inl rfl | exact Or.inr rfl) (pe_op op_modN (pe_op op_mul (pe_op op_add (pe_op op_modN (pv 0) pe_int) pe_int) (pe_op op_add (pe_op op_mul pe_int (pv 1)) pe_int)) pe_int))
      (pss_cons (ps_ret (pe_op op_modN (pe_op op_fdivN (pe_op op_modN (pe_op op_pow (pv 2) pe_int) pe_int) pe_int) pe_int))
      pss_nil)), ?_⟩
  refine spF2_body (by show 2 ≤ 3; decide) h (fun B0 hn cell k hp R => ?_)
  replace hn : B0.n = 3 := hn
  try dsimp only at hp
  try dsimp only at R
  -- _law_number_here = (_law_cell % 2147483629 + 48271) * (7919 * _law_k + 104729) % 2147483647
  refine g_asg (τ := tInt) (by rw [hn]; decide) (sm_op (sm_op (sm_op (sm_op (sm_var rfl) sm_int (ov_modP (by /- 1.mod -/ (try dsimp only); first | done | (walk_at "vc")))) sm_int ov_add) (sm_op (sm_op sm_int (sm_var rfl) (ov_mulR (by /- 1.mul -/ (try dsimp only); first | done | (constructor <;> omega)))) sm_int ov_add) (ov_mulR (by /- 1.mul1 -/ (try dsimp only); first | done | (constructor <;> omega)))) sm_int (ov_modP (by /- 1.mod1 -/ (try dsimp only); first | done | (walk_at "vc")))) (fun number_here h_number_here => ?_)
  -- return _law_number_here ** 5 % 2147483629 // 16 % 65537
  exact g_ret (Le.refl B0) R (sm_op (sm_op (sm_op (sm_op (sm_var rfl) sm_int (ov_pow (by /- 2.pow -/ (try dsimp only); first | done | (have h1 := Int.emod_nonneg ((cell % 2147483629 + 48271) * (7919 * k + 104729)) (by decide : (2147483647 : Int) ≠ 0); have h2 := Int.emod_lt_of_pos ((cell % 2147483629 + 48271) * (7919 * k + 104729)) (by decide : (0 : Int) < 2147483647); exact ⟨by decide, by decide, by rw [h_number_here]; omega⟩)))) sm_int (ov_modP (by /- 2.mod -/ (try dsimp only); first | done | (walk_at "vc")))) sm_int (ov_fdiv (by /- 2.div -/ (try dsimp only); first | done | (walk_at "vc")))) sm_int (ov_modP (by /- 2.mod1 -/ (try dsimp only); first | done | (walk_at "vc")))) (by /- 2.ret -/ (try dsimp only); first | done | (rw [h_number_here]; rfl))
def sp_symbols_by (K : PySem.W.Frag) (a : Ad) : Sp := spO3 (tScr K) tInt tInt (fun s m t => s.length ≤ 63 ∧ MF.ManyI m ∧ 16 ≤ t ∧ t ≤ 512) tInt (fun s m t => MF.symsOf s m t)
set_option maxHeartbeats 4000000 in
theorem ok_symbols_by {P : Program} {w : World} {K : PySem.W.Frag} {mg : PySem.Str → Option Value} {base : Heap} {a : Ad} (T : Tx K mg a) : FnOk P w K mg base CX0 2 a.f_symbols_by a.d_symbols_by ["_law_script", "_law_many", "_law_top_here"] (sp_symbols_by K a) := by
  refine T.F_symbols_by.ok sc_symbols_by (fun vs H Q E h => spO3_len h) (fun cdv A outer s H vs Q E hr h => ?_)
  refine ⟨_, (pss_cons (ps_set (i := 3) sc_symbols_by.nd rfl (by first | exact Or.inl rfl | exact Or.inr rfl) (pe_lst pa_nil))
      (pss_cons (ps_for PassesOwn.never rfl (pi_range1 rfl T.n_range (pa_cons (pv 1) pa_nil)) (pg_name (i := 4) sc_symbols_by.nd rfl (by first | exact Or.inl rfl | exact Or.inr rfl))
        (pss_cons (ps_if (pt_cmpR op_lt (pe_op op_add (pv 4) pe_int) (pe_callB call_len_seq (by rfl) T.n_len bb_len (pa_cons (pv 0) pa_nil)) (nomark _)) (pss_cons (ps_expr (pe_bm PySem.F.plainAttrs_list PySem.F.slot_list_append PySem.F.type_list_append mt_append (pv 3) (pa_cons (pe_op op_modN (pe_ix ix_list (pv 0) (pe_op op_add (pv 4) pe_int) (fun _ _ => rfl)) (pv 2)) pa_nil))) pss_nil) (pss_cons (ps_expr (pe_bm PySem.F.plainAttrs_list PySem.F.slot_list_append PySem.F.type_list_append mt_append (pv 3) (pa_cons (pe_op op_modN (pe_call (ok_mixed T) (hr.mono (by decide)) rfl T.m_mixed T.F_mixed.kp T.b_mixed .nil pass0 (pa_cons (pe_call (ok_cell_at T) (hr.mono (by decide)) rfl T.m_cell_at T.F_cell_at.kp T.b_cell_at .nil pass0 (pa_cons (pv 0) (pa_cons (pe_op op_modN (pv 4) pe_int) pa_nil))) (pa_cons (pv 4) pa_nil))) (pv 2)) pa_nil))) pss_nil))
      pss_nil))
      (pss_cons (ps_ret (pv 3))
      pss_nil))), ?_⟩
  refine spO3_body (by show 3 ≤ 5; decide) h (fun B0 hn script many top_here hp R => ?_)
  replace hn : B0.n = 5 := hn
  try dsimp only at hp
  try dsimp only at R
  have hm1 := hp.2.1.1
  have hm2 := hp.2.1.2
  -- _law_found = []
  refine g_asgO (τ := tInt) (by rw [hn]; decide) (smo_lst SmI.nil (by decide)) (fun found h_found => ?_)
  -- for _law_k in range(_law_many)
  refine g_for (S := (List Int)) (τ := tInt) (smw_range1 (sm_var rfl) (by /- 2.range -/ (try dsimp only); first | done | (omega))) (fun B1 hB => (tgt_name (by rw [hB, hn]; decide))) (fun (i : Nat) (s : (List Int)) => (fun i f => f = ((rangeL 0 many).take i).map (MF.symOf script top_here)) i s)
    (fun (s : (List Int)) => [(0, .fz (tScr K) script), (1, .fz tInt many), (2, .fz tInt top_here), (3, .cl tInt s)]) found ⟨rfl, rfl, rfl, rfl, trivial⟩ (by /- 2.init -/ (try dsimp only); first | done | (rw [h_found]; rfl)) ?_ ?_
  ·
    intro BL le_BL i found1 x hx_x hI_x
    have hI_x : (fun i f => f = ((rangeL 0 many).take i).map (MF.symOf script top_here)) i found1 := hI_x
    try dsimp only at hI_x
    have hn_BL : BL.n = 5 := le_BL.n.trans hn
    show G BL _ [(4, .fz tInt x), (0, .fz (tScr K) script), (1, .fz tInt many), (2, .fz tInt top_here), (3, .cl tInt found1)] _
    obtain ⟨hx_lt, hx_e⟩ := rangeL0_iff.mp hx_x
    -- if _law_k + 2 < len(_law_script)
    refine g_if (smt_tt (sm_op (sm_op (sm_var rfl) sm_int ov_add) (sm_lenScr (sm_var rfl)) ov_lt)) (fun hc => ?_) (fun hc => ?_)
    ·
      refine g_assoc ?_
      -- _law_found.append(_law_script[_law_k + 2] % _law_top_here)
      refine g_append (K := K) rfl (sm_op (sm_ixScr (sm_var rfl) (sm_op (sm_var rfl) sm_int ov_add) (by /- 4.ix0 -/ (try dsimp only); first | done | (omega)) (by /- 4.ix -/ (try dsimp only); first | done | (exact MF.cell_ix (by omega) (by simpa using hc)))) (sm_var rfl) (ov_modP (by /- 4.mod -/ (try dsimp only); first | done | (omega)))) (by /- 4.app -/ (try dsimp only); first | done | (rw [hI_x, List.length_map, List.length_take, rangeL_len]; omega)) (fun found2 h_found2 => ?_)
      refine g_next ?_
      exact g_loop found2 rfl ⟨rfl, rfl, rfl, rfl, trivial⟩ (by /- 2.step -/ (try dsimp only); first | done | (rw [h_found2, hI_x, MF.map_step hx_x]; unfold MF.symOf; rw [if_pos (by simpa using hc)]))
    ·
      refine g_assoc ?_
      -- _law_found.append(_law_mixed(_law_cell_at(_law_script, _law_k % 5), _law_k) % _law_top_here)
      refine g_append (K := K) rfl (sm_op (sm_call2 (sma_cons (sm_call2 (sma_cons (sm_var rfl) (sma_cons (sm_op (sm_var rfl) sm_int (ov_modP (by /- 6.mod -/ (try dsimp only); first | done | (omega)))) sma_nil)) (by /- 6.pre_cell_at -/ (try dsimp only); first | done | (omega))) (sma_cons (sm_var rfl) sma_nil)) (by /- 6.pre_mixed -/ (try dsimp only); first | done | (omega))) (sm_var rfl) (ov_modP (by /- 6.mod1 -/ (try dsimp only); first | done | (omega)))) (by /- 6.app -/ (try dsimp only); first | done | (rw [hI_x, List.length_map, List.length_take, rangeL_len]; omega)) (fun found3 h_found3 => ?_)
      refine g_next ?_
      exact g_loop found3 rfl ⟨rfl, rfl, rfl, rfl, trivial⟩ (by /- 2.step1 -/ (try dsimp only); first | done | (rw [h_found3, hI_x, MF.map_step hx_x]; unfold MF.symOf; rw [if_neg (by simpa using hc)]))
  ·
    intro found4 hE
    try dsimp only at hE
    show G B0 _ [(0, .fz (tScr K) script), (1, .fz tInt many), (2, .fz tInt top_here), (3, .cl tInt found4)] _
    -- return _law_found
    exact g_retC (Le.refl B0) R rfl (by /- 7.ret -/ (try dsimp only); first | done | (rw [hE, List.take_length]; rfl))
def sp_number (K : PySem.W.Frag) (a : Ad) : Sp := spF2 (tList tInt) tInt (fun l t => (∃ r, MF.RngI r ∧ t = MF.lastI r + 1 ∧ MF.AllSym r l) ∧ l.length ≤ 17) tInt (fun l t => MF.joinT t l)
set_option maxHeartbeats 4000000 in
theorem ok_number {P : Program} {w : World} {K : PySem.W.Frag} {mg : PySem.Str → Option Value} {base : Heap} {a : Ad} (T : Tx K mg a) : FnOk P w K mg base CX0 1 a.f_number a.d_number ["_law_some", "_law_top_here"] (sp_number K a) := by
  refine T.F_number.ok sc_number (fun vs H Q E h => spF2_len h) (fun cdv A outer s H vs Q E hr h => ?_)
  refine ⟨_, (pss_cons (ps_set (i := 2) sc_number.nd rfl (by first | exact Or.inl rfl | exact Or.inr rfl) pe_int)
      (pss_cons (ps_set (i := 3) sc_number.nd rfl (by first | exact Or.inl rfl | exact Or.inr rfl) pe_int)
      (pss_cons (ps_for PassesOwn.never rfl (pi_list (pv 0)) (pg_name (i := 4) sc_number.nd rfl (by first | exact Or.inl rfl | exact Or.inr rfl))
        (pss_cons (ps_set (i := 2) sc_number.nd rfl (by first | exact Or.inl rfl | exact Or.inr rfl) (pe_op op_add (pv 2) (pe_op op_mul (pv 4) (pv 3))))
      (pss_cons (ps_set (i := 3) sc_number.nd rfl (by first | exact Or.inl rfl | exact Or.inr rfl) (pe_op op_mul (pv 3) (pv 1)))
      pss_nil)))
      (pss_cons (ps_ret (pv 2))
      pss_nil)))), ?_⟩
  refine spF2_body (by show 2 ≤ 5; decide) h (fun B0 hn some top_here hp R => ?_)
  replace hn : B0.n = 5 := hn
  try dsimp only at hp
  try dsimp only at R
  obtain ⟨⟨r, hg, ht, hs⟩, hl⟩ := hp
  have hlast : MF.lastI r ≤ 255 := by have := hg.2.l255; unfold MF.lastI; omega
  have hlast0 : 0 ≤ MF.lastI r := Int.natCast_nonneg _
  -- _law_found = 0
  refine g_asg (τ := tInt) (by rw [hn]; decide) sm_int (fun found h_found => ?_)
  -- _law_by = 1
  refine g_asg (τ := tInt) (by rw [hn]; decide) sm_int (fun byV h_byV => ?_)
  -- for _law_symbol in _law_some
  refine g_for (S := Int × Int) (τ := tInt) (smw_listF (sm_var rfl)) (fun B1 hB => (tgt_name (by rw [hB, hn]; decide))) (fun (i : Nat) (s : Int × Int) => (fun i f b => b = top_here ^ i ∧ f = MF.joinT top_here (some.take i)) i s.1 s.2)
    (fun (s : Int × Int) => [(0, .fz (tList tInt) some), (1, .fz tInt top_here), (2, .fz tInt s.1), (3, .fz tInt s.2)]) (found, byV) ⟨rfl, rfl, rfl, rfl, trivial⟩ (by /- 3.init -/ (try dsimp only); first | done | (rw [h_found, h_byV]; exact ⟨by simp, rfl⟩)) ?_ ?_
  ·
    intro BL le_BL i s x hx_x hI_x
    obtain ⟨found1, byV1⟩ := s
    have hI_x : (fun i f b => b = top_here ^ i ∧ f = MF.joinT top_here (some.take i)) i found1 byV1 := hI_x
    try dsimp only at hI_x
    have hn_BL : BL.n = 5 := le_BL.n.trans hn
    show G BL _ [(4, .fz tInt x), (0, .fz (tList tInt) some), (1, .fz tInt top_here), (2, .fz tInt found1), (3, .fz tInt byV1)] _
    have hsx := MF.get_sym hs hx_x
    have hsl := hsx.lt512 hg
    have hs0 := hsx.1
    -- _law_found = _law_found + _law_symbol * _law_by
    refine g_asg (τ := tInt) (by rw [hn_BL]; decide) (sm_op (sm_var rfl) (sm_op (sm_var rfl) (sm_var rfl) (ov_mulL (by /- 4.mul -/ (try dsimp only); first | done | (constructor <;> omega)))) ov_add) (fun found2 h_found2 => ?_)
    -- _law_by = _law_by * _law_top_here
    refine g_asg (τ := tInt) (by rw [hn_BL]; decide) (sm_op (sm_var rfl) (sm_var rfl) (ov_mulR (by /- 5.mul -/ (try dsimp only); first | done | (constructor <;> omega)))) (fun byV2 h_byV2 => ?_)
    exact g_loop (found2, byV2) rfl ⟨rfl, rfl, rfl, rfl, trivial⟩ (by /- 3.step -/ (try dsimp only); first | done | (rw [h_found2, h_byV2, hI_x.1, hI_x.2]; exact ⟨(Int.pow_succ _ _).symm, (MF.joinT_step hx_x).symm⟩))
  ·
    intro s hE
    obtain ⟨found3, byV3⟩ := s
    try dsimp only at hE
    show G B0 _ [(0, .fz (tList tInt) some), (1, .fz tInt top_here), (2, .fz tInt found3), (3, .fz tInt byV3)] _
    -- return _law_found
    exact g_ret (Le.refl B0) R (sm_var rfl) (by /- 6.ret -/ (try dsimp only); first | done | (rw [hE.2, List.take_length]))
def sp_alike (K : PySem.W.Frag) (a : Ad) : Sp := spF2 (tList tInt) (tList tInt) (fun f d => f = d) tBool (fun _ _ => true)
set_option maxHeartbeats 4000000 in
theorem ok_alike {P : Program} {w : World} {K : PySem.W.Frag} {mg : PySem.Str → Option Value} {base : Heap} {a : Ad} (T : Tx K mg a) : FnOk P w K mg base CX0 2 a.f_alike a.d_alike ["_law_found", "_law_due"] (sp_alike K a) := by
  refine T.F_alike.ok sc_alike (fun vs H Q E h => spF2_len h) (fun cdv A outer s H vs Q E hr h => ?_)
  refine ⟨_, (pss_cons (ps_if (PW.pt (pw_or (pt_not (pt_val (pe_callB call_isi (by rfl) T.n_isinstance bb_isinstance (pa_cons (pv 0) (pa_cons (pe_ty T.n_list bb_list) pa_nil))))) (pw_or1 (pt_cmpR op_ne (pe_callB call_len_seq (by rfl) T.n_len bb_len (pa_cons (pv 0) pa_nil)) (pe_callB call_len_seq (by rfl) T.n_len bb_len (pa_cons (pv 1) pa_nil)) (nomark _))))) pss_never pss_nil)
      (pss_cons (ps_for PassesOwn.never rfl (pi_zip (by rfl) T.n_zip (pa_cons (pv 0) (pa_cons (pv 1) pa_nil))) (pg_tup rfl (pgs_cons (pg_name (i := 2) sc_alike.nd rfl (by first | exact Or.inl rfl | exact Or.inr rfl)) (pgs_cons (pg_name (i := 3) sc_alike.nd rfl (by first | exact Or.inl rfl | exact Or.inr rfl)) pgs_nil)))
        (pss_cons (ps_if (pt_not (pt_val (pe_call (ok_whole T) (hr.mono (by decide)) rfl T.m_whole T.F_whole.kp T.b_whole .nil pass0 (pa_cons (pv 2) (pa_cons (pv 3) pa_nil))))) pss_never pss_nil)
      pss_nil))
      (pss_cons (ps_ret pe_bl)
      pss_nil))), ?_⟩
  refine spF2_body (by show 2 ≤ 4; decide) h (fun B0 hn found due hp R => ?_)
  replace hn : B0.n = 4 := hn
  try dsimp only at hp
  try dsimp only at R
  -- if not isinstance(_law_found, list) or len(_law_found) != len(_law_due)
  refine g_if (smt_or (smt_not (smt_b (sm_isi (b := true) (sm_var rfl) ti_list (by decide +kernel)))) (fun hb => (smt_tt (sm_op (sm_len (SmL.of (sm_var rfl))) (sm_len (SmL.of (sm_var rfl))) ov_neI)))) (fun hc => ?_) (fun hc => ?_)
  ·
    exact False.elim (by rw [hp] at hc; simp at hc)
  ·
    refine g_next ?_
    -- for (_law_one, _law_other) in zip(_law_found, _law_due)
    refine g_for (S := Unit) (τ := (tTup2 tInt tInt)) (smw_zipF (sm_var rfl) (sm_var rfl)) (fun B1 hB => (tgt_tup (by rw [hB, hn]; decide) (by rw [hB, hn]; decide))) (fun (i : Nat) (s : Unit) => (fun _ => True) i)
      (fun (s : Unit) => [(0, .fz (tList tInt) found), (1, .fz (tList tInt) due)]) () ⟨rfl, rfl, trivial⟩ (by /- 3.init -/ (try dsimp only); first | done | (walk_at "vc")) ?_ ?_
    ·
      intro BL le_BL i s x hx_x hI_x
      have hI_x : (fun _ => True) i := hI_x
      try dsimp only at hI_x
      have hn_BL : BL.n = 4 := le_BL.n.trans hn
      show G BL _ [(3, .fz tInt x.2), (2, .fz tInt x.1), (0, .fz (tList tInt) found), (1, .fz (tList tInt) due)] _
      have hz := List.getElem?_zip_eq_some.mp hx_x
      -- if not _law_whole(_law_one, _law_other)
      refine g_if (smt_not (smt_b (sm_call2 (sma_cons (sm_var rfl) (sma_cons (sm_var rfl) sma_nil)) (by /- 4.pre_whole -/ (try dsimp only); first | done | (walk_at "vc"))))) (fun hc1 => ?_) (fun hc1 => ?_)
      ·
        try dsimp only at hc1
        exact False.elim (by rw [hp] at hz; have z := hz.1.symm.trans hz.2; simp at z; simp [z] at hc1)
      ·
        try dsimp only at hc1
        refine g_next ?_
        exact g_loop () rfl ⟨rfl, rfl, trivial⟩ (by /- 3.step -/ (try dsimp only); first | done | (walk_at "vc"))
    ·
      intro s hE
      try dsimp only at hE
      show G B0 _ [(0, .fz (tList tInt) found), (1, .fz (tList tInt) due)] _
      -- return True
      exact g_ret (Le.refl B0) R sm_bl (by /- 6.ret -/ (try dsimp only); first | done | (walk_at "vc"))
def sp_refused (K : PySem.W.Frag) (a : Ad) : Sp := spF2 (tField a) tInt (fun r m => MF.GoodI r ∧ ¬ MF.ManyI m) tBool (fun _ _ => true)
set_option maxHeartbeats 4000000 in
theorem ok_refused {P : Program} {w : World} {K : PySem.W.Frag} {mg : PySem.Str → Option Value} {base : Heap} {a : Ad} (T : Tx K mg a) : FnOk P w K mg base CX0 5 a.f_refused a.d_refused ["_law_field", "_law_many"] (sp_refused K a) := by
  refine T.F_refused.ok sc_refused (fun vs H Q E h => spF2_len h) (fun cdv A outer s H vs Q E hr h => ?_)
  refine ⟨_, (pss_cons (ps_set (i := 2) sc_refused.nd rfl (by first | exact Or.inl rfl | exact Or.inr rfl) pe_non)
      (pss_cons (VX.ps_try_asV (i := 3) rfl rfl sc_refused.nd rfl rfl ⟨rfl, by decide, .inl T.m_NoShape⟩ takes0
        (fun W pn xe tk hpo => (pss_cons (ps_expr (VX.pe_makeS T.M_Blocks (ok_Blocks___init__ T) (hr.mono (by decide)) rfl T.m_Blocks T.b_Blocks___init__ .nil (fun σ => passAt tk σ) (pa_cons (pv 0) (pa_cons (pv 1) pa_nil)))) pss_nil))
        (fun a_ pn => (pss_cons (ps_set (i := 2) sc_refused.nd rfl (by first | exact Or.inl rfl | exact Or.inr rfl) (pv 3))
      pss_nil)))
      (pss_cons (ps_if (pt_cmpR op_isN (pv 2) pe_non (nomark _)) pss_never pss_nil)
      (pss_cons (ps_if (pt_val (pe_callB VX.call_isT (by rfl) T.n_isinstance bb_isinstance (pa_cons (pv 2) (pa_cons (pe_tup (pa_cons (pe_cls T.m_NoField) (pa_cons (pe_cls T.m_NoBack) (pa_cons (pe_cls T.m_NoCode) (pa_cons (pe_cls T.m_NoPlace) (pa_cons (pe_cls T.m_NoBlock) (pa_cons (pe_cls T.m_Gone) (pa_cons (pe_cls T.m_Standing) (pa_cons (pe_cls T.m_NoPower) (pa_cons (pe_cls T.m_WrongPlank) (pa_cons (pe_cls T.m_NoLine) pa_nil))))))))))) pa_nil)))) pss_never pss_nil)
      (pss_cons (ps_ret (pe_and (pe_callB VX.call_isV (by rfl) T.n_isinstance bb_isinstance (pa_cons (pv 2) (pa_cons (pe_cls T.m_PlankError) pa_nil))) (pe_one (pe_callB VX.call_isV (by rfl) T.n_isinstance bb_isinstance (pa_cons (pv 2) (pa_cons (pe_ty T.n_ValueError bb_ValueError) pa_nil))))))
      pss_nil))))), ?_⟩
  refine spF2_body (by show 2 ≤ 4; decide) h (fun B0 hn field many hp R => ?_)
  replace hn : B0.n = 4 := hn
  try dsimp only at hp
  try dsimp only at R
  -- _law_error = None
  refine g_asg (τ := tNon) (by rw [hn]; decide) sm_non (fun error h_error => ?_)
  -- try:
  refine g_try ?_
  refine g_assoc ?_
  -- Blocks(_law_field, _law_many)
  refine g_dropX (smx_make2 (sma_cons (sm_var rfl) (sma_cons (sm_var rfl) sma_nil)) (by /- 3.pre_Blocks___init__ -/ (try dsimp only); first | done | (exact hp.1))) (fun y h_y => ?_) (fun e h_e => ?_)
  ·
    exact False.elim (by rw [MF.blkX_er hp.2] at h_y; cases h_y)
  ·
    try dsimp only at h_e
    rcases (show e = ((4, []) : Exn) by rw [MF.blkX_er hp.2] at h_e; exact (Except.error.inj h_e).symm) with rfl
    ·
      refine xout_as (show (exL a)[4]? = some (a.x_NoShape, []) from rfl) T.t_NoShape_NoShape (by rw [hn]; decide) ?_
      -- _law_error = e
      refine g_asg (τ := (tEx (exL a))) (by rw [hn]; decide) (sm_var rfl) (fun error1 h_error1 => ?_)
      subst h_error1
      refine g_gone ?_
      -- if _law_error is None
      refine g_if (smt_tt (sm_isNX (sm_var rfl) nn_ex)) (fun hc => ?_) (fun hc => ?_)
      ·
        exact False.elim (by cases hc)
      ·
        refine g_next ?_
        -- if isinstance(_law_error, (NoField, NoBack, NoCode, NoPlace, NoBlock, Gone, Standing, NoPower, WrongPlank, NoLine))
        refine g_if (smt_b (sm_isT (b := false) (sm_var rfl) (show (exL a)[4]? = some (a.x_NoShape, []) from rfl) T.X_NoShape (.cons (.cons (.cons (.cons (.cons (.cons (.cons (.cons (.cons (.cons ClsL.nil)))))))))) (by show 10 ≤ 1000; decide) (kita_f (kit_of T.X_NoField T.s_NoShape T.p_NoShape_NoField) (kita_f (kit_of T.X_NoBack T.s_NoShape T.p_NoShape_NoBack) (kita_f (kit_of T.X_NoCode T.s_NoShape T.p_NoShape_NoCode) (kita_f (kit_of T.X_NoPlace T.s_NoShape T.p_NoShape_NoPlace) (kita_f (kit_of T.X_NoBlock T.s_NoShape T.p_NoShape_NoBlock) (kita_f (kit_of T.X_Gone T.s_NoShape T.p_NoShape_Gone) (kita_f (kit_of T.X_Standing T.s_NoShape T.p_NoShape_Standing) (kita_f (kit_of T.X_NoPower T.s_NoShape T.p_NoShape_NoPower) (kita_f (kit_of T.X_WrongPlank T.s_NoShape T.p_NoShape_WrongPlank) (kita_f (kit_of T.X_NoLine T.s_NoShape T.p_NoShape_NoLine) kita_nil)))))))))))) (fun hc1 => ?_) (fun hc1 => ?_)
        ·
          exact False.elim (by cases hc1)
        ·
          refine g_next ?_
          -- return isinstance(_law_error, PlankError) and isinstance(_law_error, ValueError)
          exact g_ret (Le.refl B0) R (sm_andV (sm_isV (b := true) (sm_var rfl) (show (exL a)[4]? = some (a.x_NoShape, []) from rfl) T.X_NoShape rfl rel_ref (kit_of T.X_PlankError T.s_NoShape T.p_NoShape_PlankError)) (fun hb => (sm_isV (b := true) (sm_var rfl) (show (exL a)[4]? = some (a.x_NoShape, []) from rfl) T.X_NoShape rfl rel_ty (kit_ve T.v_NoShape)))) (by /- 10.ret -/ (try dsimp only); first | done | (walk_at "vc"))
def sp_good (K : PySem.W.Frag) (a : Ad) : Sp := spF3 (tBlocks a) tInt tInt (fun bl n l => MF.GoodI bl.1 ∧ MF.ManyI bl.2 ∧ l = MF.limI bl.1 bl.2 ∧ 0 < l) tBool (fun _ _ _ => true)
set_option maxHeartbeats 4000000 in
theorem ok_good {P : Program} {w : World} {K : PySem.W.Frag} {mg : PySem.Str → Option Value} {base : Heap} {a : Ad} (T : Tx K mg a) : FnOk P w K mg base CX0 2 a.f_good a.d_good ["_law_blocks", "_law_number_here", "_law_limit"] (sp_good K a) := by
  refine T.F_good.ok sc_good (fun vs H Q E h => spF3_len h) (fun cdv A outer s H vs Q E hr h => ?_)
  refine ⟨_, (pss_cons (ps_for PassesOwn.never rfl (pi_list (pe_lst (pa_cons (pv 1) (pa_cons (pe_op op_modN (pv 1) (pv 2)) (pa_cons (pe_op op_sub (pv 2) pe_int) (pa_cons (pv 2) (pa_cons (pe_op op_add (pv 2) (pe_op op_modN (pv 1) (pv 2))) (pa_cons (pe_un un_neg pe_int) (pa_cons pe_int (pa_cons (pe_op op_sub (pe_un un_neg pe_int) (pe_op op_modN (pv 1) (pv 2))) pa_nil)))))))))) (pg_name (i := 3) sc_good.nd rfl (by first | exact Or.inl rfl | exact Or.inr rfl))
        (pss_cons (ps_set (i := 4) sc_good.nd rfl (by first | exact Or.inl rfl | exact Or.inr rfl) (pe_meth (pv 0) T.C_Blocks T.e_Blocks_good (ok_Blocks_good T) (hr.mono (by decide)) T.b_Blocks_good .nil pass0 (pa_cons (pv 3) pa_nil)))
      (pss_cons (ps_if (PW.pt (pw_or (pt_not (pt_val (pe_callB call_isi (by rfl) T.n_isinstance bb_isinstance (pa_cons (pv 4) (pa_cons (pe_ty T.n_bool bb_bool) pa_nil))))) (pw_or1 (pt_cmpR op_ne (pv 4) (pe_chain op_le op_lt pe_int (pv 3) (pv 2)) (nomark _))))) pss_never pss_nil)
      pss_nil)))
      (pss_cons (ps_ret pe_bl)
      pss_nil)), ?_⟩
  refine spF3_body (by show 3 ≤ 5; decide) h (fun B0 hn blocks number_here limit hp R => ?_)
  replace hn : B0.n = 5 := hn
  try dsimp only at hp
  try dsimp only at R
  -- for _law_one in [_law_number_here, _law_number_here % _law_limit, _law_limit - 1, _law_limit, _law_limit + _law_numb
  refine g_for (S := Unit) (τ := tInt) (smw_listF (Sm.of_own (smo_lst (SmI.cons (sm_var rfl) (SmI.cons (sm_op (sm_var rfl) (sm_var rfl) (ov_modP (by /- 1.mod -/ (try dsimp only); first | done | (exact hp.2.2.2)))) (SmI.cons (sm_op (sm_var rfl) sm_int ov_sub) (SmI.cons (sm_var rfl) (SmI.cons (sm_op (sm_var rfl) (sm_op (sm_var rfl) (sm_var rfl) (ov_modP (by /- 1.mod1 -/ (try dsimp only); first | done | (exact hp.2.2.2)))) ov_add) (SmI.cons (sm_neg sm_int) (SmI.cons sm_int (SmI.cons (sm_op (sm_neg sm_int) (sm_op (sm_var rfl) (sm_var rfl) (ov_modP (by /- 1.mod2 -/ (try dsimp only); first | done | (exact hp.2.2.2)))) ov_sub) SmI.nil)))))))) (by show 8 ≤ 1000; decide)))) (fun B1 hB => (tgt_name (by rw [hB, hn]; decide))) (fun (i : Nat) (s : Unit) => (fun _ => True) i)
    (fun (s : Unit) => [(0, .fz (tBlocks a) blocks), (1, .fz tInt number_here), (2, .fz tInt limit)]) () ⟨rfl, rfl, rfl, trivial⟩ (by /- 1.init -/ (try dsimp only); first | done | (walk_at "vc")) ?_ ?_
  ·
    intro BL le_BL i s x hx_x hI_x
    have hI_x : (fun _ => True) i := hI_x
    try dsimp only at hI_x
    have hn_BL : BL.n = 5 := le_BL.n.trans hn
    show G BL _ [(3, .fz tInt x), (0, .fz (tBlocks a) blocks), (1, .fz tInt number_here), (2, .fz tInt limit)] _
    -- _law_found = _law_blocks.good(_law_one)
    refine g_asg (τ := tBool) (by rw [hn_BL]; decide) (sm_meth2 (sm_var rfl) ns_Blocks (by decide +kernel) rfl (sma_cons (sm_var rfl) sma_nil) (by /- 2.pre_Blocks_good -/ (try dsimp only); first | done | (walk_at "vc"))) (fun found h_found => ?_)
    try dsimp only at h_found
    -- if not isinstance(_law_found, bool) or _law_found != (0 <= _law_one < _law_limit)
    refine g_if (smt_or (smt_not (smt_b (sm_isi (b := true) (sm_var rfl) ti_bool (by decide +kernel)))) (fun hb => (smt_tt (sm_op (sm_var rfl) (sm_chain sm_int (sm_var rfl) ov_le (fun _ => (sm_var rfl)) (fun _ => ov_lt)) ov_neB)))) (fun hc => ?_) (fun hc => ?_)
    ·
      exact False.elim (by rw [h_found, hp.2.2.1] at hc; simp at hc)
    ·
      refine g_next ?_
      exact g_loop () rfl ⟨rfl, rfl, rfl, trivial⟩ (by /- 1.step -/ (try dsimp only); first | done | (walk_at "vc"))
  ·
    intro s hE
    try dsimp only at hE
    show G B0 _ [(0, .fz (tBlocks a) blocks), (1, .fz tInt number_here), (2, .fz tInt limit)] _
    -- return True
    exact g_ret (Le.refl B0) R sm_bl (by /- 5.ret -/ (try dsimp only); first | done | (walk_at "vc"))
def sp_law (K : PySem.W.Frag) (a : Ad) : Sp := spF1 (tScr K) (fun s => s.length ≤ 63) tBool (fun _ => true)
set_option maxHeartbeats 4000000 in
theorem ok_law {P : Program} {w : World} {K : PySem.W.Frag} {mg : PySem.Str → Option Value} {base : Heap} {a : Ad} (T : Tx K mg a) : FnOk P w K mg base CX0 6 a.f_law a.d_law ["_law_script"] (sp_law K a) := by
  refine T.F_law.ok sc_law (fun vs H Q E h => spF1_len h) (fun cdv A outer s H vs Q E hr h => ?_)
  refine ⟨_, (pss_cons (ps_set (i := 1) sc_law.nd rfl (by first | exact Or.inl rfl | exact Or.inr rfl) (pe_call (ok_rule_by T) (hr.mono (by decide)) rfl T.m_rule_by T.F_rule_by.kp T.b_rule_by .nil pass0 (pa_cons (pe_call (ok_cell_at T) (hr.mono (by decide)) rfl T.m_cell_at T.F_cell_at.kp T.b_cell_at .nil pass0 (pa_cons (pv 0) (pa_cons pe_int pa_nil))) pa_nil)))
      (pss_cons (ps_set (i := 2) sc_law.nd rfl (by first | exact Or.inl rfl | exact Or.inr rfl) (pe_call (ok_top T) (hr.mono (by decide)) rfl T.m_top T.F_top.kp T.b_top .nil pass0 (pa_cons (pv 1) pa_nil)))
      (pss_cons (ps_set (i := 3) sc_law.nd rfl (by first | exact Or.inl rfl | exact Or.inr rfl) (pe_make T.M_Field (ok_Field___init__ T) (hr.mono (by decide)) rfl T.m_Field T.b_Field___init__ .nil pass0 (pa_cons (pv 1) pa_nil)))
      (pss_cons (ps_set (i := 4) sc_law.nd rfl (by first | exact Or.inl rfl | exact Or.inr rfl) (pe_op op_add pe_int (pe_op op_modN (pe_call (ok_cell_at T) (hr.mono (by decide)) rfl T.m_cell_at T.F_cell_at.kp T.b_cell_at .nil pass0 (pa_cons (pv 0) (pa_cons pe_int pa_nil))) pe_int)))
      (pss_cons (ps_set (i := 5) sc_law.nd rfl (by first | exact Or.inl rfl | exact Or.inr rfl) (VX.pe_makeS T.M_Blocks (ok_Blocks___init__ T) (hr.mono (by decide)) rfl T.m_Blocks T.b_Blocks___init__ .nil (fun σ => passAt takes0 σ) (pa_cons (pv 3) (pa_cons (pv 4) pa_nil))))
      (pss_cons (ps_set (i := 6) sc_law.nd rfl (by first | exact Or.inl rfl | exact Or.inr rfl) (pe_call (ok_number T) (hr.mono (by decide)) rfl T.m_number T.F_number.kp T.b_number .nil pass0 (pa_cons (pe_op op_cat (pe_op op_rep (pe_lst (pa_ints (ns := [0]) (by rfl))) (pv 4)) (pe_lst (pa_ints (ns := [1]) (by rfl)))) (pa_cons (pv 2) pa_nil))))
      (pss_cons (ps_set (i := 7) sc_law.nd rfl (by first | exact Or.inl rfl | exact Or.inr rfl) (pe_call (ok_symbols_by T) (hr.mono (by decide)) rfl T.m_symbols_by T.F_symbols_by.kp T.b_symbols_by .nil pass0 (pa_cons (pv 0) (pa_cons (pv 4) (pa_cons (pv 2) pa_nil)))))
      (pss_cons (ps_set (i := 8) sc_law.nd rfl (by first | exact Or.inl rfl | exact Or.inr rfl) (pe_callTy call_list_of (by rfl) T.n_list bb_list (pa_cons (pv 7) pa_nil)))
      (pss_cons (ps_set (i := 9) sc_law.nd rfl (by first | exact Or.inl rfl | exact Or.inr rfl) (pe_op op_modN (pe_op op_fdivN (pe_call (ok_cell_at T) (hr.mono (by decide)) rfl T.m_cell_at T.F_cell_at.kp T.b_cell_at .nil pass0 (pa_cons (pv 0) (pa_cons pe_int pa_nil))) pe_int) (pv 4)))
      (pss_cons (ps_asg (pe_op op_modN (pe_op op_add (pe_ix ix_list (pv 8) (pv 9) (fun _ _ => rfl)) (pe_op op_fdivN (pe_call (ok_cell_at T) (hr.mono (by decide)) rfl T.m_cell_at T.F_cell_at.kp T.b_cell_at .nil pass0 (pa_cons (pv 0) (pa_cons pe_int pa_nil))) pe_int)) (pv 2)) (pg_sub (pv 8) (pv 9) set_list))
      (pss_cons (ps_set (i := 10) sc_law.nd rfl (by first | exact Or.inl rfl | exact Or.inr rfl) (pe_callTy call_list_of (by rfl) T.n_list bb_list (pa_cons (pv 7) pa_nil)))
      (pss_cons (ps_set (i := 11) sc_law.nd rfl (by first | exact Or.inl rfl | exact Or.inr rfl) (pe_meth (pv 5) T.C_Blocks T.e_Blocks_joined (ok_Blocks_joined T) (hr.mono (by decide)) T.b_Blocks_joined .nil pass0 (pa_cons (pv 10) pa_nil)))
      (pss_cons (ps_set (i := 12) sc_law.nd rfl (by first | exact Or.inl rfl | exact Or.inr rfl) (pe_meth (pv 5) T.C_Blocks T.e_Blocks_symbols (ok_Blocks_symbols T) (hr.mono (by decide)) T.b_Blocks_symbols .nil pass0 (pa_cons (pv 11) pa_nil)))
      (pss_cons (ps_if (PW.pt (pw_or (pt_cmpR (op_neD hr.units) (pv 10) (pv 7) (nomark _)) (pw_or (pt_not (pt_val (pe_call (ok_whole T) (hr.mono (by decide)) rfl T.m_whole T.F_whole.kp T.b_whole .nil pass0 (pa_cons (pv 11) (pa_cons (pe_call (ok_number T) (hr.mono (by decide)) rfl T.m_number T.F_number.kp T.b_number .nil pass0 (pa_cons (pv 7) (pa_cons (pv 2) pa_nil))) pa_nil))))) (pw_or1 (pt_not (pt_val (pe_call (ok_alike T) (hr.mono (by decide)) rfl T.m_alike T.F_alike.kp T.b_alike .nil pass0 (pa_cons (pv 12) (pa_cons (pv 7) pa_nil))))))))) pss_never pss_nil)
      (pss_cons (ps_asg (pe_op op_modN (pe_op op_add (pe_ix ix_list (pv 12) (pv 9) (fun _ _ => rfl)) pe_int) (pv 2)) (pg_sub (pv 12) (pv 9) set_list))
      (pss_cons (ps_expr (pe_bm PySem.F.plainAttrs_list PySem.F.slot_list_append PySem.F.type_list_append mt_append (pv 12) (pa_cons pe_int pa_nil)))
      (pss_cons (ps_if (pt_not (pt_val (pe_call (ok_alike T) (hr.mono (by decide)) rfl T.m_alike T.F_alike.kp T.b_alike .nil pass0 (pa_cons (pe_meth (pv 5) T.C_Blocks T.e_Blocks_symbols (ok_Blocks_symbols T) (hr.mono (by decide)) T.b_Blocks_symbols .nil pass0 (pa_cons (pv 11) pa_nil)) (pa_cons (pv 7) pa_nil))))) pss_never pss_nil)
      (pss_cons (ps_set (i := 13) sc_law.nd rfl (by first | exact Or.inl rfl | exact Or.inr rfl) (pe_meth (pv 5) T.C_Blocks T.e_Blocks_joined (ok_Blocks_joined T) (hr.mono (by decide)) T.b_Blocks_joined .nil pass0 (pa_cons (pe_callTy call_list_of (by rfl) T.n_list bb_list (pa_cons (pv 8) pa_nil)) pa_nil)))
      (pss_cons (ps_if (PW.pt (pw_or (pt_cmpR op_ne (pe_cmpR op_eq (pv 13) (pv 11) (nomark _)) (pe_cmpR (op_eqD hr.units) (pv 8) (pv 7) (nomark _)) (nomark _)) (pw_or1 (pt_not (pt_val (pe_call (ok_alike T) (hr.mono (by decide)) rfl T.m_alike T.F_alike.kp T.b_alike .nil pass0 (pa_cons (pe_meth (pv 5) T.C_Blocks T.e_Blocks_symbols (ok_Blocks_symbols T) (hr.mono (by decide)) T.b_Blocks_symbols .nil pass0 (pa_cons (pv 13) pa_nil)) (pa_cons (pv 8) pa_nil)))))))) pss_never pss_nil)
      (pss_cons (ps_if (PW.pt (pw_or (pt_not (pt_val (pe_call (ok_whole T) (hr.mono (by decide)) rfl T.m_whole T.F_whole.kp T.b_whole .nil pass0 (pa_cons (pe_fld (pv 5) rfl) (pa_cons (pv 6) pa_nil))))) (pw_or (pt_not (pt_val (pe_call (ok_whole T) (hr.mono (by decide)) rfl T.m_whole T.F_whole.kp T.b_whole .nil pass0 (pa_cons (pe_fld (pv 5) rfl) (pa_cons (pv 4) pa_nil))))) (pw_or1 (pt_cmpR op_ne (pe_fld (pe_fld (pv 5) rfl) rfl) (pv 1) (nomark _)))))) pss_never pss_nil)
      (pss_cons (ps_set (i := 14) sc_law.nd rfl (by first | exact Or.inl rfl | exact Or.inr rfl) (pe_op op_modN (pe_call (ok_cell_at T) (hr.mono (by decide)) rfl T.m_cell_at T.F_cell_at.kp T.b_cell_at .nil pass0 (pa_cons (pv 0) (pa_cons pe_int pa_nil))) (pe_op op_pow pe_int pe_int)))
      (pss_cons (ps_if (PW.pt (pw_or (pt_not (pt_val (pe_call (ok_refused T) (hr.mono (by decide)) rfl T.m_refused T.F_refused.kp T.b_refused .nil pass0 (pa_cons (pv 3) (pa_cons (pe_op op_add pe_int (pv 14)) pa_nil))))) (pw_or (pt_not (pt_val (pe_call (ok_refused T) (hr.mono (by decide)) rfl T.m_refused T.F_refused.kp T.b_refused .nil pass0 (pa_cons (pv 3) (pa_cons (pe_op op_sub pe_int (pv 14)) pa_nil))))) (pw_or1 (pt_not (pt_val (pe_call (ok_refused T) (hr.mono (by decide)) rfl T.m_refused T.F_refused.kp T.b_refused .nil pass0 (pa_cons (pv 3) (pa_cons pe_int pa_nil))))))))) pss_never pss_nil)
      (pss_cons (ps_ret (pe_call (ok_good T) (hr.mono (by decide)) rfl T.m_good T.F_good.kp T.b_good .nil pass0 (pa_cons (pv 5) (pa_cons (pe_op op_sub (pe_op op_modN (pe_call (ok_cell_at T) (hr.mono (by decide)) rfl T.m_cell_at T.F_cell_at.kp T.b_cell_at .nil pass0 (pa_cons (pv 0) (pa_cons pe_int pa_nil))) (pe_op op_pow pe_int pe_int)) (pe_op op_mul pe_int (pe_op op_pow pe_int pe_int))) (pa_cons (pv 6) pa_nil)))))
      pss_nil))))))))))))))))))))))), ?_⟩
  refine spF1_body (by show 1 ≤ 15; decide) h (fun B0 hn script hp R => ?_)
  replace hn : B0.n = 15 := hn
  try dsimp only at hp
  try dsimp only at R
  -- _law_rule = _law_rule_by(_law_cell_at(_law_script, 0))
  refine g_asg (τ := tInt) (by rw [hn]; decide) (sm_call1 (sma_cons (sm_call2 (sma_cons (sm_var rfl) (sma_cons sm_int sma_nil)) (by /- 1.pre_cell_at -/ (try dsimp only); first | done | (walk_at "vc"))) sma_nil) (by /- 1.pre_rule_by -/ (try dsimp only); first | done | (walk_at "vc"))) (fun rule h_rule => ?_)
  try dsimp only at h_rule
  have hg : MF.GoodI rule := by rw [h_rule]; exact MF.rule_good _
  -- _law_top_here = _law_top(_law_rule)
  refine g_asg (τ := tInt) (by rw [hn]; decide) (sm_call1 (sma_cons (sm_var rfl) sma_nil) (by /- 2.pre_top -/ (try dsimp only); first | done | (exact hg.rng))) (fun top_here h_top_here => ?_)
  try dsimp only at h_top_here
  have htop : 16 ≤ top_here ∧ top_here ≤ 512 := by have h1 := hg.2.rng.l15; have h2 := hg.2.rng.l255; unfold MF.lastI at h_top_here; omega
  -- _law_field = Field(_law_rule)
  refine g_asg (τ := (tField a)) (by rw [hn]; decide) (sm_make_Field T (sma_cons (sm_var rfl) sma_nil) (by /- 3.pre_Field___init__ -/ (try dsimp only); first | done | (exact hg))) (fun field h_field => ?_)
  try dsimp only at h_field
  -- _law_many = 1 + _law_cell_at(_law_script, 1) % 16
  refine g_asg (τ := tInt) (by rw [hn]; decide) (sm_op sm_int (sm_op (sm_call2 (sma_cons (sm_var rfl) (sma_cons sm_int sma_nil)) (by /- 4.pre_cell_at -/ (try dsimp only); first | done | (walk_at "vc"))) sm_int (ov_modP (by /- 4.mod -/ (try dsimp only); first | done | (walk_at "vc")))) ov_add) (fun many h_many => ?_)
  try dsimp only at h_many
  have hm : MF.ManyI many := by rw [h_many]; exact MF.many_of _
  have hm1 := hm.1
  have hm2 := hm.2
  -- _law_blocks = Blocks(_law_field, _law_many)
  refine g_asg (τ := (tBlocks a)) (by rw [hn]; decide) (sm_ofX (smx_make2 (sma_cons (sm_var rfl) (sma_cons (sm_var rfl) sma_nil)) (by /- 5.pre_Blocks___init__ -/ (try dsimp only); first | done | (rw [h_field]; exact hg))) (by /- 5.ok_Blocks___init__ -/ (try dsimp only); first | done | (exact MF.blkX_ok hm))) (fun blocks h_blocks => ?_)
  try dsimp only at h_blocks
  -- _law_limit = _law_number([0] * _law_many + [1], _law_top_here)
  refine g_asg (τ := tInt) (by rw [hn]; decide) (sm_call2 (sma_cons (Sm.of_own (smo_cat (SmL.of_own (smo_rep (SmL.of_own (smo_ints (by decide))) (sm_var rfl) (by /- 6.rep -/ (try dsimp only); first | done | (omega)))) (SmL.of_own (smo_ints (by decide))) (by /- 6.cat -/ (try dsimp only); first | done | (simp; omega)))) (sma_cons (sm_var rfl) sma_nil)) (by /- 6.pre_number -/ (try dsimp only); first | done | (exact ⟨⟨rule, hg.rng, h_top_here, MF.lim_syms hg.rng⟩, by simp; omega⟩))) (fun limit h_limit => ?_)
  try dsimp only at h_limit
  have hlim : limit = MF.limI rule many := by rw [h_limit, MF.joinT_zeros, MF.lim_pow hg.rng h_top_here]
  -- _law_some = _law_symbols_by(_law_script, _law_many, _law_top_here)
  refine g_asg (τ := (tList tInt)) (by rw [hn]; decide) (Sm.of_own (smo_call3 (sma_cons (sm_var rfl) (sma_cons (sm_var rfl) (sma_cons (sm_var rfl) sma_nil))) (by /- 7.pre_symbols_by -/ (try dsimp only); first | done | (exact ⟨hp, hm, htop⟩)))) (fun some h_some => ?_)
  try dsimp only at h_some
  have hsy : MF.AllSym rule some := by rw [h_some]; exact MF.symsOf_sym hg.rng h_top_here
  have hsl : many = (some.length : Int) := by rw [h_some, MF.symsOf_len]; omega
  -- _law_other = list(_law_some)
  refine g_asgO (τ := tInt) (by rw [hn]; decide) (smo_list (SmL.of (sm_var rfl))) (fun other h_other => ?_)
  -- _law_place = _law_cell_at(_law_script, 1) // 16 % _law_many
  refine g_asg (τ := tInt) (by rw [hn]; decide) (sm_op (sm_op (sm_call2 (sma_cons (sm_var rfl) (sma_cons sm_int sma_nil)) (by /- 9.pre_cell_at -/ (try dsimp only); first | done | (walk_at "vc"))) sm_int (ov_fdiv (by /- 9.div -/ (try dsimp only); first | done | (walk_at "vc")))) (sm_var rfl) (ov_modP (by /- 9.mod -/ (try dsimp only); first | done | (omega)))) (fun place h_place => ?_)
  try dsimp only at h_place
  have hpl0 : 0 ≤ place := by rw [h_place]; exact Int.emod_nonneg _ (by omega)
  have hpl1 : place < many := by rw [h_place]; exact Int.emod_lt_of_pos _ (by omega)
  -- _law_other[_law_place] = (_law_other[_law_place] + _law_cell_at(_law_script, 0) // 48) % _law_top_here
  refine g_setI rfl (sm_op (sm_op (sm_ix (sml_cell rfl) (sm_var rfl) (by /- 10.ix0 -/ (try dsimp only); first | done | (exact hpl0)) (by /- 10.ix -/ (try dsimp only); first | done | (exact MF.getD_ix (by rw [h_other]; omega)))) (sm_op (sm_call2 (sma_cons (sm_var rfl) (sma_cons sm_int sma_nil)) (by /- 10.pre_cell_at -/ (try dsimp only); first | done | (walk_at "vc"))) sm_int (ov_fdiv (by /- 10.div -/ (try dsimp only); first | done | (walk_at "vc")))) ov_add) (sm_var rfl) (ov_modP (by /- 10.mod -/ (try dsimp only); first | done | (omega)))) (sm_var rfl) (by /- 10.set0 -/ (try dsimp only); first | done | (exact hpl0)) (by /- 10.set -/ (try dsimp only); first | done | (rw [h_other]; omega)) (fun other1 h_other1 => ?_)
  -- _law_handed = list(_law_some)
  refine g_asg (τ := (tList tInt)) (by rw [hn]; decide) (Sm.of_own (smo_list (SmL.of (sm_var rfl)))) (fun handed h_handed => ?_)
  have hso : MF.AllSym rule other1 := by rw [h_other1, h_other]; exact MF.set_sym hsy (MF.sym_mod hg.rng h_top_here)
  have hsol : other1.length = some.length := by rw [h_other1, h_other, List.length_set]
  -- _law_block = _law_blocks.joined(_law_handed)
  refine g_asg (τ := tInt) (by rw [hn]; decide) (sm_meth2 (sm_var rfl) ns_Blocks (by decide +kernel) rfl (sma_cons (sm_var rfl) sma_nil) (by /- 12.pre_Blocks_joined -/ (try dsimp only); first | done | (rw [h_blocks, h_field, h_handed]; exact ⟨hg, hsy, by omega⟩))) (fun block h_block => ?_)
  try dsimp only at h_block
  have hblk : block = MF.joinI rule some := by rw [h_block, h_blocks, h_field, h_handed]
  have hbn : 0 ≤ block := by rw [hblk]; exact MF.joinI_nn hg.rng hsy
  -- _law_found = _law_blocks.symbols(_law_block)
  refine g_asgO (τ := tInt) (by rw [hn]; decide) (smo_meth2 (sm_var rfl) ns_Blocks (by decide +kernel) rfl (sma_cons (sm_var rfl) sma_nil) (by /- 13.pre_Blocks_symbols -/ (try dsimp only); first | done | (rw [h_blocks, h_field]; exact ⟨hg, hm, hbn⟩))) (fun found h_found => ?_)
  try dsimp only at h_found
  have hfd : found = some := by rw [h_found, h_blocks, h_field, hblk]; exact MF.syms_join hg.rng hsy hsl
  -- if _law_handed != _law_some or not _law_whole(_law_block, _law_number(_law_some, _law_top_here)) or (not _law_alike(_law_found, _law_some))
  refine g_if (smt_or (smt_tt (sm_neL eq_int (by decide) (SmL.of (sm_var rfl)) (SmL.of (sm_var rfl)))) (fun hb => (smt_or (smt_not (smt_b (sm_call2 (sma_cons (sm_var rfl) (sma_cons (sm_call2 (sma_cons (sm_var rfl) (sma_cons (sm_var rfl) sma_nil)) (by /- 14.pre_number -/ (try dsimp only); first | done | (exact ⟨⟨rule, hg.rng, h_top_here, hsy⟩, by omega⟩))) sma_nil)) (by /- 14.pre_whole -/ (try dsimp only); first | done | (walk_at "vc"))))) (fun hb => (smt_not (smt_b (sm_lend sc_bool (i := 12) rfl (sm_call2 (sma_cons (sm_var rfl) (sma_cons (sm_var rfl) sma_nil)) (by /- 14.pre_alike -/ (try dsimp only); first | done | (exact hfd)))))))))) (fun hc => ?_) (fun hc => ?_)
  ·
    try dsimp only at hc
    exact False.elim (by rw [h_handed, hblk, MF.joinI_T h_top_here] at hc; simp at hc)
  ·
    try dsimp only at hc
    refine g_next ?_
    -- _law_found[_law_place] = (_law_found[_law_place] + 1) % _law_top_here
    refine g_setI rfl (sm_op (sm_op (sm_ix (sml_cell rfl) (sm_var rfl) (by /- 16.ix0 -/ (try dsimp only); first | done | (exact hpl0)) (by /- 16.ix -/ (try dsimp only); first | done | (exact MF.getD_ix (by rw [hfd]; omega)))) sm_int ov_add) (sm_var rfl) (ov_modP (by /- 16.mod -/ (try dsimp only); first | done | (omega)))) (sm_var rfl) (by /- 16.set0 -/ (try dsimp only); first | done | (exact hpl0)) (by /- 16.set -/ (try dsimp only); first | done | (rw [hfd]; omega)) (fun found1 h_found1 => ?_)
    -- _law_found.append(0)
    refine g_append (K := K) rfl sm_int (by /- 17.app -/ (try dsimp only); first | done | (rw [h_found1, List.length_set, hfd]; omega)) (fun found2 h_found2 => ?_)
    -- if not _law_alike(_law_blocks.symbols(_law_block), _law_some)
    refine g_if (smt_not (smt_b (sm_call2 (sma_cons (Sm.of_own (smo_meth2 (sm_var rfl) ns_Blocks (by decide +kernel) rfl (sma_cons (sm_var rfl) sma_nil) (by /- 18.pre_Blocks_symbols -/ (try dsimp only); first | done | (rw [h_blocks, h_field]; exact ⟨hg, hm, hbn⟩)))) (sma_cons (sm_var rfl) sma_nil)) (by /- 18.pre_alike -/ (try dsimp only); first | done | (rw [h_blocks, h_field, hblk]; exact MF.syms_join hg.rng hsy hsl))))) (fun hc1 => ?_) (fun hc1 => ?_)
    ·
      try dsimp only at hc1
      exact False.elim (by simp at hc1)
    ·
      try dsimp only at hc1
      refine g_next ?_
      -- _law_second = _law_blocks.joined(list(_law_other))
      refine g_asg (τ := tInt) (by rw [hn]; decide) (sm_meth2 (sm_var rfl) ns_Blocks (by decide +kernel) rfl (sma_cons (Sm.of_own (smo_list (sml_cell rfl))) sma_nil) (by /- 20.pre_Blocks_joined -/ (try dsimp only); first | done | (rw [h_blocks, h_field]; exact ⟨hg, hso, by omega⟩))) (fun second h_second => ?_)
      try dsimp only at h_second
      have hsec : second = MF.joinI rule other1 := by rw [h_second, h_blocks, h_field]
      have hsn : 0 ≤ second := by rw [hsec]; exact MF.joinI_nn hg.rng hso
      -- if (_law_second == _law_block) != (_law_other == _law_some) or not _law_alike(_law_blocks.symbols(_law_second), _law_other)
      refine g_if (smt_or (smt_tt (sm_op (sm_op (sm_var rfl) (sm_var rfl) ov_eqI) (sm_eqL eq_int (by decide) (sml_cell rfl) (SmL.of (sm_var rfl))) ov_neB)) (fun hb => (smt_not (smt_b (sm_lend sc_bool (i := 8) rfl (sm_call2 (sma_cons (Sm.of_own (smo_meth2 (sm_var rfl) ns_Blocks (by decide +kernel) rfl (sma_cons (sm_var rfl) sma_nil) (by /- 21.pre_Blocks_symbols -/ (try dsimp only); first | done | (rw [h_blocks, h_field]; exact ⟨hg, hm, hsn⟩)))) (sma_cons (sm_var rfl) sma_nil)) (by /- 21.pre_alike -/ (try dsimp only); first | done | (rw [h_blocks, h_field, hsec]; exact MF.syms_join hg.rng hso (by omega))))))))) (fun hc2 => ?_) (fun hc2 => ?_)
      ·
        try dsimp only at hc2
        exact False.elim (by rw [hsec, hblk] at hc2; have z := MF.join_inj hg.rng hso hsy hsol; simp [z] at hc2)
      ·
        try dsimp only at hc2
        refine g_next ?_
        -- if not _law_whole(_law_blocks.limit, _law_limit) or not _law_whole(_law_blocks.many, _law_many) or _law_blocks.field.rule != _law_rule
        refine g_if (smt_or (smt_not (smt_b (sm_call2 (sma_cons (fld_Blocks_limit T (sm_var rfl)) (sma_cons (sm_var rfl) sma_nil)) (by /- 23.pre_whole -/ (try dsimp only); first | done | (walk_at "vc"))))) (fun hb => (smt_or (smt_not (smt_b (sm_call2 (sma_cons (fld_Blocks_many T (sm_var rfl)) (sma_cons (sm_var rfl) sma_nil)) (by /- 23.pre_whole1 -/ (try dsimp only); first | done | (walk_at "vc"))))) (fun hb => (smt_tt (sm_op (fld_Field_rule T (fld_Blocks_field T (sm_var rfl))) (sm_var rfl) ov_neI)))))) (fun hc3 => ?_) (fun hc3 => ?_)
        ·
          try dsimp only at hc3
          exact False.elim (by rw [h_blocks, h_field, hlim] at hc3; simp at hc3)
        ·
          try dsimp only at hc3
          refine g_next ?_
          -- _law_far = _law_cell_at(_law_script, 2) % 10 ** 28
          refine g_asg (τ := tInt) (by rw [hn]; decide) (sm_op (sm_call2 (sma_cons (sm_var rfl) (sma_cons sm_int sma_nil)) (by /- 25.pre_cell_at -/ (try dsimp only); first | done | (walk_at "vc"))) (sm_op sm_int sm_int (ov_pow (by /- 25.pow -/ (try dsimp only); first | done | (decide)))) (ov_modP (by /- 25.mod -/ (try dsimp only); first | done | (decide)))) (fun far h_far => ?_)
          try dsimp only at h_far
          have hfar : 0 ≤ far := by rw [h_far]; exact Int.emod_nonneg _ (by decide)
          -- if not _law_refused(_law_field, 17 + _law_far) or not _law_refused(_law_field, 0 - _law_far) or (not _law_refused(_law_field, 17))
          refine g_if (smt_or (smt_not (smt_b (sm_call2 (sma_cons (sm_var rfl) (sma_cons (sm_op sm_int (sm_var rfl) ov_add) sma_nil)) (by /- 26.pre_refused -/ (try dsimp only); first | done | (exact ⟨by rw [h_field]; exact hg, fun h => by have h1 := h.1; have h2 := h.2; omega⟩))))) (fun hb => (smt_or (smt_not (smt_b (sm_call2 (sma_cons (sm_var rfl) (sma_cons (sm_op sm_int (sm_var rfl) ov_sub) sma_nil)) (by /- 26.pre_refused1 -/ (try dsimp only); first | done | (exact ⟨by rw [h_field]; exact hg, fun h => by have h1 := h.1; have h2 := h.2; omega⟩))))) (fun hb => (smt_not (smt_b (sm_call2 (sma_cons (sm_var rfl) (sma_cons sm_int sma_nil)) (by /- 26.pre_refused2 -/ (try dsimp only); first | done | (exact ⟨by rw [h_field]; exact hg, fun h => by have h1 := h.1; have h2 := h.2; omega⟩))))))))) (fun hc4 => ?_) (fun hc4 => ?_)
          ·
            try dsimp only at hc4
            exact False.elim (by simp at hc4)
          ·
            try dsimp only at hc4
            refine g_next ?_
            -- return _law_good(_law_blocks, _law_cell_at(_law_script, 3) % 10 ** 28 - 5 * 10 ** 27, _law_limit)
            exact g_ret (Le.refl B0) R (sm_call3 (sma_cons (sm_var rfl) (sma_cons (sm_op (sm_op (sm_call2 (sma_cons (sm_var rfl) (sma_cons sm_int sma_nil)) (by /- 28.pre_cell_at -/ (try dsimp only); first | done | (walk_at "vc"))) (sm_op sm_int sm_int (ov_pow (by /- 28.pow -/ (try dsimp only); first | done | (decide)))) (ov_modP (by /- 28.mod -/ (try dsimp only); first | done | (decide)))) (sm_op sm_int (sm_op sm_int sm_int (ov_pow (by /- 28.pow1 -/ (try dsimp only); first | done | (decide)))) (ov_mulL (by /- 28.mul -/ (try dsimp only); first | done | (decide)))) ov_sub) (sma_cons (sm_var rfl) sma_nil))) (by /- 28.pre_good -/ (try dsimp only); first | done | (rw [h_blocks, h_field]; exact ⟨hg, hm, hlim, by rw [hlim]; exact MF.by_pos (r := rule) (k := many.toNat)⟩))) (by /- 28.ret -/ (try dsimp only); first | done | (walk_at "vc"))
theorem all_mk {P : Program} {w : World} {K : PySem.W.Frag} {h : Heap} {mg : PySem.Str → Option Value} {fa : Addr} (X : K.In h) (G : h.Ns mainGlobals mg) (hfa : mg "law" = some (.ref fa))
    {f_doubled : Addr} {od_doubled an_doubled : Option Addr} {sl_doubled : Array (Option Value)} {oc_doubled kV_doubled dc_doubled pm_doubled cd_doubled ct_doubled : Value}
    {f_walk_of : Addr} {od_walk_of an_walk_of : Option Addr} {sl_walk_of : Array (Option Value)} {oc_walk_of kV_walk_of dc_walk_of pm_walk_of cd_walk_of ct_walk_of : Value}
    {f_Field___init__ : Addr} {od_Field___init__ an_Field___init__ : Option Addr} {sl_Field___init__ : Array (Option Value)} {oc_Field___init__ kV_Field___init__ dc_Field___init__ pm_Field___init__ cd_Field___init__ ct_Field___init__ : Value}
    {f_Blocks___init__ : Addr} {od_Blocks___init__ an_Blocks___init__ : Option Addr} {sl_Blocks___init__ : Array (Option Value)} {oc_Blocks___init__ kV_Blocks___init__ dc_Blocks___init__ pm_Blocks___init__ cd_Blocks___init__ ct_Blocks___init__ : Value}
    {f_Blocks_good : Addr} {od_Blocks_good an_Blocks_good : Option Addr} {sl_Blocks_good : Array (Option Value)} {oc_Blocks_good kV_Blocks_good dc_Blocks_good pm_Blocks_good cd_Blocks_good ct_Blocks_good : Value}
    {f_Blocks_symbols : Addr} {od_Blocks_symbols an_Blocks_symbols : Option Addr} {sl_Blocks_symbols : Array (Option Value)} {oc_Blocks_symbols kV_Blocks_symbols dc_Blocks_symbols pm_Blocks_symbols cd_Blocks_symbols ct_Blocks_symbols : Value}
    {f_Blocks_joined : Addr} {od_Blocks_joined an_Blocks_joined : Option Addr} {sl_Blocks_joined : Array (Option Value)} {oc_Blocks_joined kV_Blocks_joined dc_Blocks_joined pm_Blocks_joined cd_Blocks_joined ct_Blocks_joined : Value}
    {f_cell_at : Addr} {od_cell_at an_cell_at : Option Addr} {sl_cell_at : Array (Option Value)} {oc_cell_at kV_cell_at dc_cell_at pm_cell_at cd_cell_at ct_cell_at : Value}
    {f_whole : Addr} {od_whole an_whole : Option Addr} {sl_whole : Array (Option Value)} {oc_whole kV_whole dc_whole pm_whole cd_whole ct_whole : Value}
    {f_rule_by : Addr} {od_rule_by an_rule_by : Option Addr} {sl_rule_by : Array (Option Value)} {oc_rule_by kV_rule_by dc_rule_by pm_rule_by cd_rule_by ct_rule_by : Value}
    {f_top : Addr} {od_top an_top : Option Addr} {sl_top : Array (Option Value)} {oc_top kV_top dc_top pm_top cd_top ct_top : Value}
    {f_mixed : Addr} {od_mixed an_mixed : Option Addr} {sl_mixed : Array (Option Value)} {oc_mixed kV_mixed dc_mixed pm_mixed cd_mixed ct_mixed : Value}
    {f_symbols_by : Addr} {od_symbols_by an_symbols_by : Option Addr} {sl_symbols_by : Array (Option Value)} {oc_symbols_by kV_symbols_by dc_symbols_by pm_symbols_by cd_symbols_by ct_symbols_by : Value}
    {f_number : Addr} {od_number an_number : Option Addr} {sl_number : Array (Option Value)} {oc_number kV_number dc_number pm_number cd_number ct_number : Value}
    {f_alike : Addr} {od_alike an_alike : Option Addr} {sl_alike : Array (Option Value)} {oc_alike kV_alike dc_alike pm_alike cd_alike ct_alike : Value}
    {f_refused : Addr} {od_refused an_refused : Option Addr} {sl_refused : Array (Option Value)} {oc_refused kV_refused dc_refused pm_refused cd_refused ct_refused : Value}
    {f_good : Addr} {od_good an_good : Option Addr} {sl_good : Array (Option Value)} {oc_good kV_good dc_good pm_good cd_good ct_good : Value}
    {f_law : Addr} {od_law an_law : Option Addr} {sl_law : Array (Option Value)} {oc_law kV_law dc_law pm_law cd_law ct_law : Value}
    {x_PlankError : Addr}
    {x_NoField : Addr}
    {x_NoBack : Addr}
    {x_NoCode : Addr}
    {x_NoShape : Addr}
    {x_NoPlace : Addr}
    {x_NoBlock : Addr}
    {x_Gone : Addr}
    {x_Standing : Addr}
    {x_NoPower : Addr}
    {x_WrongPlank : Addr}
    {x_NoLine : Addr}
    {c_Field : Addr}
    {c_Blocks : Addr}
    {tk_MOST_SYMBOLS : Tok}
    {tk_LEAST_RULE : Tok}
    {tk_END_OF_RULES : Tok}
    (m_PlankError : PySem.W.nsIn K mainGlobals "PlankError" = some (some (.ref x_PlankError)))
    (m_NoField : PySem.W.nsIn K mainGlobals "NoField" = some (some (.ref x_NoField)))
    (m_NoBack : PySem.W.nsIn K mainGlobals "NoBack" = some (some (.ref x_NoBack)))
    (m_NoCode : PySem.W.nsIn K mainGlobals "NoCode" = some (some (.ref x_NoCode)))
    (m_NoShape : PySem.W.nsIn K mainGlobals "NoShape" = some (some (.ref x_NoShape)))
    (m_NoPlace : PySem.W.nsIn K mainGlobals "NoPlace" = some (some (.ref x_NoPlace)))
    (m_NoBlock : PySem.W.nsIn K mainGlobals "NoBlock" = some (some (.ref x_NoBlock)))
    (m_Gone : PySem.W.nsIn K mainGlobals "Gone" = some (some (.ref x_Gone)))
    (m_Standing : PySem.W.nsIn K mainGlobals "Standing" = some (some (.ref x_Standing)))
    (m_NoPower : PySem.W.nsIn K mainGlobals "NoPower" = some (some (.ref x_NoPower)))
    (m_WrongPlank : PySem.W.nsIn K mainGlobals "WrongPlank" = some (some (.ref x_WrongPlank)))
    (m_NoLine : PySem.W.nsIn K mainGlobals "NoLine" = some (some (.ref x_NoLine)))
    (C_Field : PySem.W.nsIn K mainGlobals "Field" = some (some (.ref c_Field)))
    (C_Blocks : PySem.W.nsIn K mainGlobals "Blocks" = some (some (.ref c_Blocks)))
    (a_doubled : PySem.W.nsIn K mainGlobals "doubled" = some (some (.ref f_doubled)))
    (l_doubled : K.lookup f_doubled = some ⟨oc_doubled, od_doubled, .func (PySem.W.fnOf "doubled" "doubled" (defArgs s_doubled) (defBody s_doubled) (defScope s_doubled) .none kV_doubled dc_doubled pm_doubled an_doubled cd_doubled ct_doubled), sl_doubled⟩)
    (c_doubled : PySem.W.codeIn K cd_doubled "doubled" = true)
    (k_doubled : PySem.W.keepIn K (.ref f_doubled) = true)
    (a_walk_of : PySem.W.nsIn K mainGlobals "walk_of" = some (some (.ref f_walk_of)))
    (l_walk_of : K.lookup f_walk_of = some ⟨oc_walk_of, od_walk_of, .func (PySem.W.fnOf "walk_of" "walk_of" (defArgs s_walk_of) (defBody s_walk_of) (defScope s_walk_of) .none kV_walk_of dc_walk_of pm_walk_of an_walk_of cd_walk_of ct_walk_of), sl_walk_of⟩)
    (c_walk_of : PySem.W.codeIn K cd_walk_of "walk_of" = true)
    (k_walk_of : PySem.W.keepIn K (.ref f_walk_of) = true)
    (a_Field___init__ : PySem.W.findIn K (.ref c_Field) "__init__" = some (some (.ref f_Field___init__)))
    (i_Field___init__ : PySem.W.isFn K (.ref f_Field___init__) = true)
    (l_Field___init__ : K.lookup f_Field___init__ = some ⟨oc_Field___init__, od_Field___init__, .func (PySem.W.fnOf "__init__" "Field.__init__" (defArgs s_Field___init__) (defBody s_Field___init__) (defScope s_Field___init__) .none kV_Field___init__ dc_Field___init__ pm_Field___init__ an_Field___init__ cd_Field___init__ ct_Field___init__), sl_Field___init__⟩)
    (c_Field___init__ : PySem.W.codeIn K cd_Field___init__ "Field.__init__" = true)
    (k_Field___init__ : PySem.W.keepIn K (.ref f_Field___init__) = true)
    (a_Blocks___init__ : PySem.W.findIn K (.ref c_Blocks) "__init__" = some (some (.ref f_Blocks___init__)))
    (i_Blocks___init__ : PySem.W.isFn K (.ref f_Blocks___init__) = true)
    (l_Blocks___init__ : K.lookup f_Blocks___init__ = some ⟨oc_Blocks___init__, od_Blocks___init__, .func (PySem.W.fnOf "__init__" "Blocks.__init__" (defArgs s_Blocks___init__) (defBody s_Blocks___init__) (defScope s_Blocks___init__) .none kV_Blocks___init__ dc_Blocks___init__ pm_Blocks___init__ an_Blocks___init__ cd_Blocks___init__ ct_Blocks___init__), sl_Blocks___init__⟩)
    (c_Blocks___init__ : PySem.W.codeIn K cd_Blocks___init__ "Blocks.__init__" = true)
    (k_Blocks___init__ : PySem.W.keepIn K (.ref f_Blocks___init__) = true)
    (a_Blocks_good : PySem.W.findIn K (.ref c_Blocks) "good" = some (some (.ref f_Blocks_good)))
    (i_Blocks_good : PySem.W.isFn K (.ref f_Blocks_good) = true)
    (l_Blocks_good : K.lookup f_Blocks_good = some ⟨oc_Blocks_good, od_Blocks_good, .func (PySem.W.fnOf "good" "Blocks.good" (defArgs s_Blocks_good) (defBody s_Blocks_good) (defScope s_Blocks_good) .none kV_Blocks_good dc_Blocks_good pm_Blocks_good an_Blocks_good cd_Blocks_good ct_Blocks_good), sl_Blocks_good⟩)
    (c_Blocks_good : PySem.W.codeIn K cd_Blocks_good "Blocks.good" = true)
    (k_Blocks_good : PySem.W.keepIn K (.ref f_Blocks_good) = true)
    (a_Blocks_symbols : PySem.W.findIn K (.ref c_Blocks) "symbols" = some (some (.ref f_Blocks_symbols)))
    (i_Blocks_symbols : PySem.W.isFn K (.ref f_Blocks_symbols) = true)
    (l_Blocks_symbols : K.lookup f_Blocks_symbols = some ⟨oc_Blocks_symbols, od_Blocks_symbols, .func (PySem.W.fnOf "symbols" "Blocks.symbols" (defArgs s_Blocks_symbols) (defBody s_Blocks_symbols) (defScope s_Blocks_symbols) .none kV_Blocks_symbols dc_Blocks_symbols pm_Blocks_symbols an_Blocks_symbols cd_Blocks_symbols ct_Blocks_symbols), sl_Blocks_symbols⟩)
    (c_Blocks_symbols : PySem.W.codeIn K cd_Blocks_symbols "Blocks.symbols" = true)
    (k_Blocks_symbols : PySem.W.keepIn K (.ref f_Blocks_symbols) = true)
    (a_Blocks_joined : PySem.W.findIn K (.ref c_Blocks) "joined" = some (some (.ref f_Blocks_joined)))
    (i_Blocks_joined : PySem.W.isFn K (.ref f_Blocks_joined) = true)
    (l_Blocks_joined : K.lookup f_Blocks_joined = some ⟨oc_Blocks_joined, od_Blocks_joined, .func (PySem.W.fnOf "joined" "Blocks.joined" (defArgs s_Blocks_joined) (defBody s_Blocks_joined) (defScope s_Blocks_joined) .none kV_Blocks_joined dc_Blocks_joined pm_Blocks_joined an_Blocks_joined cd_Blocks_joined ct_Blocks_joined), sl_Blocks_joined⟩)
    (c_Blocks_joined : PySem.W.codeIn K cd_Blocks_joined "Blocks.joined" = true)
    (k_Blocks_joined : PySem.W.keepIn K (.ref f_Blocks_joined) = true)
    (a_cell_at : PySem.W.nsIn K mainGlobals "_law_cell_at" = some (some (.ref f_cell_at)))
    (l_cell_at : K.lookup f_cell_at = some ⟨oc_cell_at, od_cell_at, .func (PySem.W.fnOf "_law_cell_at" "_law_cell_at" (defArgs s_cell_at) (defBody s_cell_at) (defScope s_cell_at) .none kV_cell_at dc_cell_at pm_cell_at an_cell_at cd_cell_at ct_cell_at), sl_cell_at⟩)
    (c_cell_at : PySem.W.codeIn K cd_cell_at "_law_cell_at" = true)
    (k_cell_at : PySem.W.keepIn K (.ref f_cell_at) = true)
    (a_whole : PySem.W.nsIn K mainGlobals "_law_whole" = some (some (.ref f_whole)))
    (l_whole : K.lookup f_whole = some ⟨oc_whole, od_whole, .func (PySem.W.fnOf "_law_whole" "_law_whole" (defArgs s_whole) (defBody s_whole) (defScope s_whole) .none kV_whole dc_whole pm_whole an_whole cd_whole ct_whole), sl_whole⟩)
    (c_whole : PySem.W.codeIn K cd_whole "_law_whole" = true)
    (k_whole : PySem.W.keepIn K (.ref f_whole) = true)
    (a_rule_by : PySem.W.nsIn K mainGlobals "_law_rule_by" = some (some (.ref f_rule_by)))
    (l_rule_by : K.lookup f_rule_by = some ⟨oc_rule_by, od_rule_by, .func (PySem.W.fnOf "_law_rule_by" "_law_rule_by" (defArgs s_rule_by) (defBody s_rule_by) (defScope s_rule_by) .none kV_rule_by dc_rule_by pm_rule_by an_rule_by cd_rule_by ct_rule_by), sl_rule_by⟩)
    (c_rule_by : PySem.W.codeIn K cd_rule_by "_law_rule_by" = true)
    (k_rule_by : PySem.W.keepIn K (.ref f_rule_by) = true)
    (a_top : PySem.W.nsIn K mainGlobals "_law_top" = some (some (.ref f_top)))
    (l_top : K.lookup f_top = some ⟨oc_top, od_top, .func (PySem.W.fnOf "_law_top" "_law_top" (defArgs s_top) (defBody s_top) (defScope s_top) .none kV_top dc_top pm_top an_top cd_top ct_top), sl_top⟩)
    (c_top : PySem.W.codeIn K cd_top "_law_top" = true)
    (k_top : PySem.W.keepIn K (.ref f_top) = true)
    (a_mixed : PySem.W.nsIn K mainGlobals "_law_mixed" = some (some (.ref f_mixed)))
    (l_mixed : K.lookup f_mixed = some ⟨oc_mixed, od_mixed, .func (PySem.W.fnOf "_law_mixed" "_law_mixed" (defArgs s_mixed) (defBody s_mixed) (defScope s_mixed) .none kV_mixed dc_mixed pm_mixed an_mixed cd_mixed ct_mixed), sl_mixed⟩)
    (c_mixed : PySem.W.codeIn K cd_mixed "_law_mixed" = true)
    (k_mixed : PySem.W.keepIn K (.ref f_mixed) = true)
    (a_symbols_by : PySem.W.nsIn K mainGlobals "_law_symbols_by" = some (some (.ref f_symbols_by)))
    (l_symbols_by : K.lookup f_symbols_by = some ⟨oc_symbols_by, od_symbols_by, .func (PySem.W.fnOf "_law_symbols_by" "_law_symbols_by" (defArgs s_symbols_by) (defBody s_symbols_by) (defScope s_symbols_by) .none kV_symbols_by dc_symbols_by pm_symbols_by an_symbols_by cd_symbols_by ct_symbols_by), sl_symbols_by⟩)
    (c_symbols_by : PySem.W.codeIn K cd_symbols_by "_law_symbols_by" = true)
    (k_symbols_by : PySem.W.keepIn K (.ref f_symbols_by) = true)
    (a_number : PySem.W.nsIn K mainGlobals "_law_number" = some (some (.ref f_number)))
    (l_number : K.lookup f_number = some ⟨oc_number, od_number, .func (PySem.W.fnOf "_law_number" "_law_number" (defArgs s_number) (defBody s_number) (defScope s_number) .none kV_number dc_number pm_number an_number cd_number ct_number), sl_number⟩)
    (c_number : PySem.W.codeIn K cd_number "_law_number" = true)
    (k_number : PySem.W.keepIn K (.ref f_number) = true)
    (a_alike : PySem.W.nsIn K mainGlobals "_law_alike" = some (some (.ref f_alike)))
    (l_alike : K.lookup f_alike = some ⟨oc_alike, od_alike, .func (PySem.W.fnOf "_law_alike" "_law_alike" (defArgs s_alike) (defBody s_alike) (defScope s_alike) .none kV_alike dc_alike pm_alike an_alike cd_alike ct_alike), sl_alike⟩)
    (c_alike : PySem.W.codeIn K cd_alike "_law_alike" = true)
    (k_alike : PySem.W.keepIn K (.ref f_alike) = true)
    (a_refused : PySem.W.nsIn K mainGlobals "_law_refused" = some (some (.ref f_refused)))
    (l_refused : K.lookup f_refused = some ⟨oc_refused, od_refused, .func (PySem.W.fnOf "_law_refused" "_law_refused" (defArgs s_refused) (defBody s_refused) (defScope s_refused) .none kV_refused dc_refused pm_refused an_refused cd_refused ct_refused), sl_refused⟩)
    (c_refused : PySem.W.codeIn K cd_refused "_law_refused" = true)
    (k_refused : PySem.W.keepIn K (.ref f_refused) = true)
    (a_good : PySem.W.nsIn K mainGlobals "_law_good" = some (some (.ref f_good)))
    (l_good : K.lookup f_good = some ⟨oc_good, od_good, .func (PySem.W.fnOf "_law_good" "_law_good" (defArgs s_good) (defBody s_good) (defScope s_good) .none kV_good dc_good pm_good an_good cd_good ct_good), sl_good⟩)
    (c_good : PySem.W.codeIn K cd_good "_law_good" = true)
    (k_good : PySem.W.keepIn K (.ref f_good) = true)
    (a_law : PySem.W.nsIn K mainGlobals "law" = some (some (.ref f_law)))
    (l_law : K.lookup f_law = some ⟨oc_law, od_law, .func (PySem.W.fnOf "law" "law" (defArgs s_law) (defBody s_law) (defScope s_law) .none kV_law dc_law pm_law an_law cd_law ct_law), sl_law⟩)
    (c_law : PySem.W.codeIn K cd_law "law" = true)
    (k_law : PySem.W.keepIn K (.ref f_law) = true)
    (xs1 : PySem.W.specialIn K (.builtin "object.__class__") "__get__" = some (some (.builtin "getset_descriptor.__get__")))
    (xs2 : PySem.W.takesIn K (.builtin "object.__class__") = some true)
    (xa_Gone : PySem.W.isClsIn K x_Gone = true)
    (xb_Gone : PySem.W.findIn K (.ref x_Gone) "__getattribute__" = some (some (.builtin "BaseException.__getattribute__")))
    (xc_Gone : PySem.W.findIn K (.ref x_Gone) "__getattr__" = some none)
    (xd_Gone : PySem.W.subIn K (.ref x_Gone) (.type "BaseException") = some true)
    (xe_Gone : PySem.W.hasDictIn K x_Gone = true)
    (xf_Gone : PySem.W.findIn K (.ref x_Gone) "__class__" = some (some (.builtin "object.__class__")))
    (xg_Gone : PySem.W.mroIn K x_Gone (.type "object") = some true)
    (xh_Gone : PySem.W.typeIn K (.ref x_Gone) = some (.type "type"))
    (xa_NoBack : PySem.W.isClsIn K x_NoBack = true)
    (xb_NoBack : PySem.W.findIn K (.ref x_NoBack) "__getattribute__" = some (some (.builtin "BaseException.__getattribute__")))
    (xc_NoBack : PySem.W.findIn K (.ref x_NoBack) "__getattr__" = some none)
    (xd_NoBack : PySem.W.subIn K (.ref x_NoBack) (.type "BaseException") = some true)
    (xe_NoBack : PySem.W.hasDictIn K x_NoBack = true)
    (xf_NoBack : PySem.W.findIn K (.ref x_NoBack) "__class__" = some (some (.builtin "object.__class__")))
    (xg_NoBack : PySem.W.mroIn K x_NoBack (.type "object") = some true)
    (xh_NoBack : PySem.W.typeIn K (.ref x_NoBack) = some (.type "type"))
    (xa_NoBlock : PySem.W.isClsIn K x_NoBlock = true)
    (xb_NoBlock : PySem.W.findIn K (.ref x_NoBlock) "__getattribute__" = some (some (.builtin "BaseException.__getattribute__")))
    (xc_NoBlock : PySem.W.findIn K (.ref x_NoBlock) "__getattr__" = some none)
    (xd_NoBlock : PySem.W.subIn K (.ref x_NoBlock) (.type "BaseException") = some true)
    (xe_NoBlock : PySem.W.hasDictIn K x_NoBlock = true)
    (xf_NoBlock : PySem.W.findIn K (.ref x_NoBlock) "__class__" = some (some (.builtin "object.__class__")))
    (xg_NoBlock : PySem.W.mroIn K x_NoBlock (.type "object") = some true)
    (xh_NoBlock : PySem.W.typeIn K (.ref x_NoBlock) = some (.type "type"))
    (xa_NoCode : PySem.W.isClsIn K x_NoCode = true)
    (xb_NoCode : PySem.W.findIn K (.ref x_NoCode) "__getattribute__" = some (some (.builtin "BaseException.__getattribute__")))
    (xc_NoCode : PySem.W.findIn K (.ref x_NoCode) "__getattr__" = some none)
    (xd_NoCode : PySem.W.subIn K (.ref x_NoCode) (.type "BaseException") = some true)
    (xe_NoCode : PySem.W.hasDictIn K x_NoCode = true)
    (xf_NoCode : PySem.W.findIn K (.ref x_NoCode) "__class__" = some (some (.builtin "object.__class__")))
    (xg_NoCode : PySem.W.mroIn K x_NoCode (.type "object") = some true)
    (xh_NoCode : PySem.W.typeIn K (.ref x_NoCode) = some (.type "type"))
    (xa_NoField : PySem.W.isClsIn K x_NoField = true)
    (xb_NoField : PySem.W.findIn K (.ref x_NoField) "__getattribute__" = some (some (.builtin "BaseException.__getattribute__")))
    (xc_NoField : PySem.W.findIn K (.ref x_NoField) "__getattr__" = some none)
    (xd_NoField : PySem.W.subIn K (.ref x_NoField) (.type "BaseException") = some true)
    (xe_NoField : PySem.W.hasDictIn K x_NoField = true)
    (xf_NoField : PySem.W.findIn K (.ref x_NoField) "__class__" = some (some (.builtin "object.__class__")))
    (xg_NoField : PySem.W.mroIn K x_NoField (.type "object") = some true)
    (xh_NoField : PySem.W.typeIn K (.ref x_NoField) = some (.type "type"))
    (xa_NoLine : PySem.W.isClsIn K x_NoLine = true)
    (xb_NoLine : PySem.W.findIn K (.ref x_NoLine) "__getattribute__" = some (some (.builtin "BaseException.__getattribute__")))
    (xc_NoLine : PySem.W.findIn K (.ref x_NoLine) "__getattr__" = some none)
    (xd_NoLine : PySem.W.subIn K (.ref x_NoLine) (.type "BaseException") = some true)
    (xe_NoLine : PySem.W.hasDictIn K x_NoLine = true)
    (xf_NoLine : PySem.W.findIn K (.ref x_NoLine) "__class__" = some (some (.builtin "object.__class__")))
    (xg_NoLine : PySem.W.mroIn K x_NoLine (.type "object") = some true)
    (xh_NoLine : PySem.W.typeIn K (.ref x_NoLine) = some (.type "type"))
    (xa_NoPlace : PySem.W.isClsIn K x_NoPlace = true)
    (xb_NoPlace : PySem.W.findIn K (.ref x_NoPlace) "__getattribute__" = some (some (.builtin "BaseException.__getattribute__")))
    (xc_NoPlace : PySem.W.findIn K (.ref x_NoPlace) "__getattr__" = some none)
    (xd_NoPlace : PySem.W.subIn K (.ref x_NoPlace) (.type "BaseException") = some true)
    (xe_NoPlace : PySem.W.hasDictIn K x_NoPlace = true)
    (xf_NoPlace : PySem.W.findIn K (.ref x_NoPlace) "__class__" = some (some (.builtin "object.__class__")))
    (xg_NoPlace : PySem.W.mroIn K x_NoPlace (.type "object") = some true)
    (xh_NoPlace : PySem.W.typeIn K (.ref x_NoPlace) = some (.type "type"))
    (xa_NoPower : PySem.W.isClsIn K x_NoPower = true)
    (xb_NoPower : PySem.W.findIn K (.ref x_NoPower) "__getattribute__" = some (some (.builtin "BaseException.__getattribute__")))
    (xc_NoPower : PySem.W.findIn K (.ref x_NoPower) "__getattr__" = some none)
    (xd_NoPower : PySem.W.subIn K (.ref x_NoPower) (.type "BaseException") = some true)
    (xe_NoPower : PySem.W.hasDictIn K x_NoPower = true)
    (xf_NoPower : PySem.W.findIn K (.ref x_NoPower) "__class__" = some (some (.builtin "object.__class__")))
    (xg_NoPower : PySem.W.mroIn K x_NoPower (.type "object") = some true)
    (xh_NoPower : PySem.W.typeIn K (.ref x_NoPower) = some (.type "type"))
    (xa_NoShape : PySem.W.isClsIn K x_NoShape = true)
    (xb_NoShape : PySem.W.findIn K (.ref x_NoShape) "__getattribute__" = some (some (.builtin "BaseException.__getattribute__")))
    (xc_NoShape : PySem.W.findIn K (.ref x_NoShape) "__getattr__" = some none)
    (xd_NoShape : PySem.W.subIn K (.ref x_NoShape) (.type "BaseException") = some true)
    (xe_NoShape : PySem.W.hasDictIn K x_NoShape = true)
    (xf_NoShape : PySem.W.findIn K (.ref x_NoShape) "__class__" = some (some (.builtin "object.__class__")))
    (xg_NoShape : PySem.W.mroIn K x_NoShape (.type "object") = some true)
    (xh_NoShape : PySem.W.typeIn K (.ref x_NoShape) = some (.type "type"))
    (xa_PlankError : PySem.W.isClsIn K x_PlankError = true)
    (xb_PlankError : PySem.W.findIn K (.ref x_PlankError) "__getattribute__" = some (some (.builtin "BaseException.__getattribute__")))
    (xc_PlankError : PySem.W.findIn K (.ref x_PlankError) "__getattr__" = some none)
    (xd_PlankError : PySem.W.subIn K (.ref x_PlankError) (.type "BaseException") = some true)
    (xe_PlankError : PySem.W.hasDictIn K x_PlankError = true)
    (xf_PlankError : PySem.W.findIn K (.ref x_PlankError) "__class__" = some (some (.builtin "object.__class__")))
    (xg_PlankError : PySem.W.mroIn K x_PlankError (.type "object") = some true)
    (xh_PlankError : PySem.W.typeIn K (.ref x_PlankError) = some (.type "type"))
    (xa_Standing : PySem.W.isClsIn K x_Standing = true)
    (xb_Standing : PySem.W.findIn K (.ref x_Standing) "__getattribute__" = some (some (.builtin "BaseException.__getattribute__")))
    (xc_Standing : PySem.W.findIn K (.ref x_Standing) "__getattr__" = some none)
    (xd_Standing : PySem.W.subIn K (.ref x_Standing) (.type "BaseException") = some true)
    (xe_Standing : PySem.W.hasDictIn K x_Standing = true)
    (xf_Standing : PySem.W.findIn K (.ref x_Standing) "__class__" = some (some (.builtin "object.__class__")))
    (xg_Standing : PySem.W.mroIn K x_Standing (.type "object") = some true)
    (xh_Standing : PySem.W.typeIn K (.ref x_Standing) = some (.type "type"))
    (xa_WrongPlank : PySem.W.isClsIn K x_WrongPlank = true)
    (xb_WrongPlank : PySem.W.findIn K (.ref x_WrongPlank) "__getattribute__" = some (some (.builtin "BaseException.__getattribute__")))
    (xc_WrongPlank : PySem.W.findIn K (.ref x_WrongPlank) "__getattr__" = some none)
    (xd_WrongPlank : PySem.W.subIn K (.ref x_WrongPlank) (.type "BaseException") = some true)
    (xe_WrongPlank : PySem.W.hasDictIn K x_WrongPlank = true)
    (xf_WrongPlank : PySem.W.findIn K (.ref x_WrongPlank) "__class__" = some (some (.builtin "object.__class__")))
    (xg_WrongPlank : PySem.W.mroIn K x_WrongPlank (.type "object") = some true)
    (xh_WrongPlank : PySem.W.typeIn K (.ref x_WrongPlank) = some (.type "type"))
    (p_NoShape_Gone : PySem.W.subIn K (.ref x_NoShape) (.ref x_Gone) = some false)
    (p_NoShape_NoBack : PySem.W.subIn K (.ref x_NoShape) (.ref x_NoBack) = some false)
    (p_NoShape_NoBlock : PySem.W.subIn K (.ref x_NoShape) (.ref x_NoBlock) = some false)
    (p_NoShape_NoCode : PySem.W.subIn K (.ref x_NoShape) (.ref x_NoCode) = some false)
    (p_NoShape_NoField : PySem.W.subIn K (.ref x_NoShape) (.ref x_NoField) = some false)
    (p_NoShape_NoLine : PySem.W.subIn K (.ref x_NoShape) (.ref x_NoLine) = some false)
    (p_NoShape_NoPlace : PySem.W.subIn K (.ref x_NoShape) (.ref x_NoPlace) = some false)
    (p_NoShape_NoPower : PySem.W.subIn K (.ref x_NoShape) (.ref x_NoPower) = some false)
    (p_NoShape_NoShape : PySem.W.subIn K (.ref x_NoShape) (.ref x_NoShape) = some true)
    (p_NoShape_PlankError : PySem.W.subIn K (.ref x_NoShape) (.ref x_PlankError) = some true)
    (p_NoShape_Standing : PySem.W.subIn K (.ref x_NoShape) (.ref x_Standing) = some false)
    (p_NoShape_WrongPlank : PySem.W.subIn K (.ref x_NoShape) (.ref x_WrongPlank) = some false)
    (q_NoShape : PySem.W.excIn K x_NoShape [.type "ValueError", .type "Exception", .type "BaseException", .type "object"] "ValueError.__new__" = true)
    (kx_NoShape : PySem.W.keepIn K (.ref x_NoShape) = true)
    (s_NoShape : PySem.W.subIn K (.ref x_NoShape) (.ref x_NoShape) = some true)
    (v_NoShape : PySem.W.subIn K (.ref x_NoShape) (.type "ValueError") = some true)
    (pg_Field : PySem.W.plainGet K c_Field Str.empty = true)
    (hd_Field : PySem.W.hasDictIn K c_Field = true)
    (po_Field : PySem.W.plainOver K c_Field = true)
    (sa_Field : PySem.W.findIn K (.ref c_Field) "__setattr__" = some (some (.builtin "object.__setattr__")))
    (mk_Field : PySem.W.makesIn K c_Field = true)
    (kc_Field : PySem.W.keepIn K (.ref c_Field) = true)
    (na_Field_rule : PySem.W.findIn K (.ref c_Field) "rule" = some none)
    (na_Field_width : PySem.W.findIn K (.ref c_Field) "width" = some none)
    (na_Field_last : PySem.W.findIn K (.ref c_Field) "last" = some none)
    (na_Field_powers : PySem.W.findIn K (.ref c_Field) "powers" = some none)
    (na_Field_logs : PySem.W.findIn K (.ref c_Field) "logs" = some none)
    (pg_Blocks : PySem.W.plainGet K c_Blocks Str.empty = true)
    (hd_Blocks : PySem.W.hasDictIn K c_Blocks = true)
    (po_Blocks : PySem.W.plainOver K c_Blocks = true)
    (sa_Blocks : PySem.W.findIn K (.ref c_Blocks) "__setattr__" = some (some (.builtin "object.__setattr__")))
    (mk_Blocks : PySem.W.makesIn K c_Blocks = true)
    (kc_Blocks : PySem.W.keepIn K (.ref c_Blocks) = true)
    (na_Blocks_field : PySem.W.findIn K (.ref c_Blocks) "field" = some none)
    (na_Blocks_many : PySem.W.findIn K (.ref c_Blocks) "many" = some none)
    (na_Blocks_limit : PySem.W.findIn K (.ref c_Blocks) "limit" = some none)
    (na_Blocks_ones : PySem.W.findIn K (.ref c_Blocks) "ones" = some none)
    (g_MOST_SYMBOLS : PySem.W.nsIn K mainGlobals "MOST_SYMBOLS" = some (some (.int 16 tk_MOST_SYMBOLS)))
    (g_LEAST_RULE : PySem.W.nsIn K mainGlobals "LEAST_RULE" = some (some (.int 16 tk_LEAST_RULE)))
    (g_END_OF_RULES : PySem.W.nsIn K mainGlobals "END_OF_RULES" = some (some (.int 512 tk_END_OF_RULES)))
    (z_ValueError : PySem.W.nsIn K mainGlobals "ValueError" = some none)
    (z_bool : PySem.W.nsIn K mainGlobals "bool" = some none)
    (z_enumerate : PySem.W.nsIn K mainGlobals "enumerate" = some none)
    (z_int : PySem.W.nsIn K mainGlobals "int" = some none)
    (z_isinstance : PySem.W.nsIn K mainGlobals "isinstance" = some none)
    (z_len : PySem.W.nsIn K mainGlobals "len" = some none)
    (z_list : PySem.W.nsIn K mainGlobals "list" = some none)
    (z_range : PySem.W.nsIn K mainGlobals "range" = some none)
    (z_reversed : PySem.W.nsIn K mainGlobals "reversed" = some none)
    (z_zip : PySem.W.nsIn K mainGlobals "zip" = some none)
    : ∃ (a : Ad) (fd : FuncData), fa = a.f_law ∧ (∀ (s : Shared) (v : Value), BindsTo s fd ⟨[v], []⟩ [("_law_script", v)]) ∧ ∀ base : Heap, K.In base → base.Ns mainGlobals mg → FnOk P w K mg base CX0 6 fa fd ["_law_script"] (sp_law K a) := by
  have e := hfa.symm.trans (PySem.W.mg_of X G a_law)
  have e2 : fa = f_law := by cases e; rfl
  rw [e2]
  have F_doubled := fun_mk (st := s_doubled) l_doubled c_doubled k_doubled
  have F_walk_of := fun_mk (st := s_walk_of) l_walk_of c_walk_of k_walk_of
  have F_Field___init__ := fun_mk (st := s_Field___init__) l_Field___init__ c_Field___init__ k_Field___init__
  have F_Blocks___init__ := fun_mk (st := s_Blocks___init__) l_Blocks___init__ c_Blocks___init__ k_Blocks___init__
  have F_Blocks_good := fun_mk (st := s_Blocks_good) l_Blocks_good c_Blocks_good k_Blocks_good
  have F_Blocks_symbols := fun_mk (st := s_Blocks_symbols) l_Blocks_symbols c_Blocks_symbols k_Blocks_symbols
  have F_Blocks_joined := fun_mk (st := s_Blocks_joined) l_Blocks_joined c_Blocks_joined k_Blocks_joined
  have F_cell_at := fun_mk (st := s_cell_at) l_cell_at c_cell_at k_cell_at
  have F_whole := fun_mk (st := s_whole) l_whole c_whole k_whole
  have F_rule_by := fun_mk (st := s_rule_by) l_rule_by c_rule_by k_rule_by
  have F_top := fun_mk (st := s_top) l_top c_top k_top
  have F_mixed := fun_mk (st := s_mixed) l_mixed c_mixed k_mixed
  have F_symbols_by := fun_mk (st := s_symbols_by) l_symbols_by c_symbols_by k_symbols_by
  have F_number := fun_mk (st := s_number) l_number c_number k_number
  have F_alike := fun_mk (st := s_alike) l_alike c_alike k_alike
  have F_refused := fun_mk (st := s_refused) l_refused c_refused k_refused
  have F_good := fun_mk (st := s_good) l_good c_good k_good
  have F_law := fun_mk (st := s_law) l_law c_law k_law
  have T : Tx K mg { x_PlankError := x_PlankError, x_NoField := x_NoField, x_NoBack := x_NoBack, x_NoCode := x_NoCode, x_NoShape := x_NoShape, x_NoPlace := x_NoPlace, x_NoBlock := x_NoBlock, x_Gone := x_Gone, x_Standing := x_Standing, x_NoPower := x_NoPower, x_WrongPlank := x_WrongPlank, x_NoLine := x_NoLine, f_doubled := f_doubled, d_doubled := PySem.W.fnOf "doubled" "doubled" (defArgs s_doubled) (defBody s_doubled) (defScope s_doubled) .none kV_doubled dc_doubled pm_doubled an_doubled cd_doubled ct_doubled, f_walk_of := f_walk_of, d_walk_of := PySem.W.fnOf "walk_of" "walk_of" (defArgs s_walk_of) (defBody s_walk_of) (defScope s_walk_of) .none kV_walk_of dc_walk_of pm_walk_of an_walk_of cd_walk_of ct_walk_of, f_Field___init__ := f_Field___init__, d_Field___init__ := PySem.W.fnOf "__init__" "Field.__init__" (defArgs s_Field___init__) (defBody s_Field___init__) (defScope s_Field___init__) .none kV_Field___init__ dc_Field___init__ pm_Field___init__ an_Field___init__ cd_Field___init__ ct_Field___init__, f_Blocks___init__ := f_Blocks___init__, d_Blocks___init__ := PySem.W.fnOf "__init__" "Blocks.__init__" (defArgs s_Blocks___init__) (defBody s_Blocks___init__) (defScope s_Blocks___init__) .none kV_Blocks___init__ dc_Blocks___init__ pm_Blocks___init__ an_Blocks___init__ cd_Blocks___init__ ct_Blocks___init__, f_Blocks_good := f_Blocks_good, d_Blocks_good := PySem.W.fnOf "good" "Blocks.good" (defArgs s_Blocks_good) (defBody s_Blocks_good) (defScope s_Blocks_good) .none kV_Blocks_good dc_Blocks_good pm_Blocks_good an_Blocks_good cd_Blocks_good ct_Blocks_good, f_Blocks_symbols := f_Blocks_symbols, d_Blocks_symbols := PySem.W.fnOf "symbols" "Blocks.symbols" (defArgs s_Blocks_symbols) (defBody s_Blocks_symbols) (defScope s_Blocks_symbols) .none kV_Blocks_symbols dc_Blocks_symbols pm_Blocks_symbols an_Blocks_symbols cd_Blocks_symbols ct_Blocks_symbols, f_Blocks_joined := f_Blocks_joined, d_Blocks_joined := PySem.W.fnOf "joined" "Blocks.joined" (defArgs s_Blocks_joined) (defBody s_Blocks_joined) (defScope s_Blocks_joined) .none kV_Blocks_joined dc_Blocks_joined pm_Blocks_joined an_Blocks_joined cd_Blocks_joined ct_Blocks_joined, f_cell_at := f_cell_at, d_cell_at := PySem.W.fnOf "_law_cell_at" "_law_cell_at" (defArgs s_cell_at) (defBody s_cell_at) (defScope s_cell_at) .none kV_cell_at dc_cell_at pm_cell_at an_cell_at cd_cell_at ct_cell_at, f_whole := f_whole, d_whole := PySem.W.fnOf "_law_whole" "_law_whole" (defArgs s_whole) (defBody s_whole) (defScope s_whole) .none kV_whole dc_whole pm_whole an_whole cd_whole ct_whole, f_rule_by := f_rule_by, d_rule_by := PySem.W.fnOf "_law_rule_by" "_law_rule_by" (defArgs s_rule_by) (defBody s_rule_by) (defScope s_rule_by) .none kV_rule_by dc_rule_by pm_rule_by an_rule_by cd_rule_by ct_rule_by, f_top := f_top, d_top := PySem.W.fnOf "_law_top" "_law_top" (defArgs s_top) (defBody s_top) (defScope s_top) .none kV_top dc_top pm_top an_top cd_top ct_top, f_mixed := f_mixed, d_mixed := PySem.W.fnOf "_law_mixed" "_law_mixed" (defArgs s_mixed) (defBody s_mixed) (defScope s_mixed) .none kV_mixed dc_mixed pm_mixed an_mixed cd_mixed ct_mixed, f_symbols_by := f_symbols_by, d_symbols_by := PySem.W.fnOf "_law_symbols_by" "_law_symbols_by" (defArgs s_symbols_by) (defBody s_symbols_by) (defScope s_symbols_by) .none kV_symbols_by dc_symbols_by pm_symbols_by an_symbols_by cd_symbols_by ct_symbols_by, f_number := f_number, d_number := PySem.W.fnOf "_law_number" "_law_number" (defArgs s_number) (defBody s_number) (defScope s_number) .none kV_number dc_number pm_number an_number cd_number ct_number, f_alike := f_alike, d_alike := PySem.W.fnOf "_law_alike" "_law_alike" (defArgs s_alike) (defBody s_alike) (defScope s_alike) .none kV_alike dc_alike pm_alike an_alike cd_alike ct_alike, f_refused := f_refused, d_refused := PySem.W.fnOf "_law_refused" "_law_refused" (defArgs s_refused) (defBody s_refused) (defScope s_refused) .none kV_refused dc_refused pm_refused an_refused cd_refused ct_refused, f_good := f_good, d_good := PySem.W.fnOf "_law_good" "_law_good" (defArgs s_good) (defBody s_good) (defScope s_good) .none kV_good dc_good pm_good an_good cd_good ct_good, f_law := f_law, d_law := PySem.W.fnOf "law" "law" (defArgs s_law) (defBody s_law) (defScope s_law) .none kV_law dc_law pm_law an_law cd_law ct_law, c_Field := c_Field, c_Blocks := c_Blocks } := {
    F_doubled := F_doubled
    b_doubled := F_doubled.binds (ps := ["one", "rule", "last"]) fun _ _ _ _ _ _ us hl => match us, hl with | [_, _, _], _ => rfl
    m_doubled := PySem.W.mg_of X G a_doubled
    F_walk_of := F_walk_of
    b_walk_of := F_walk_of.binds (ps := ["rule", "last"]) fun _ _ _ _ _ _ us hl => match us, hl with | [_, _], _ => rfl
    m_walk_of := PySem.W.mg_of X G a_walk_of
    F_Field___init__ := F_Field___init__
    b_Field___init__ := F_Field___init__.binds (ps := ["self", "rule"]) fun _ _ _ _ _ _ us hl => match us, hl with | [_, _], _ => rfl
    F_Blocks___init__ := F_Blocks___init__
    b_Blocks___init__ := F_Blocks___init__.binds (ps := ["self", "field", "many"]) fun _ _ _ _ _ _ us hl => match us, hl with | [_, _, _], _ => rfl
    F_Blocks_good := F_Blocks_good
    b_Blocks_good := F_Blocks_good.binds (ps := ["self", "block"]) fun _ _ _ _ _ _ us hl => match us, hl with | [_, _], _ => rfl
    e_Blocks_good := ⟨a_Blocks_good, i_Blocks_good, k_Blocks_good⟩
    F_Blocks_symbols := F_Blocks_symbols
    b_Blocks_symbols := F_Blocks_symbols.binds (ps := ["self", "block"]) fun _ _ _ _ _ _ us hl => match us, hl with | [_, _], _ => rfl
    e_Blocks_symbols := ⟨a_Blocks_symbols, i_Blocks_symbols, k_Blocks_symbols⟩
    F_Blocks_joined := F_Blocks_joined
    b_Blocks_joined := F_Blocks_joined.binds (ps := ["self", "some"]) fun _ _ _ _ _ _ us hl => match us, hl with | [_, _], _ => rfl
    e_Blocks_joined := ⟨a_Blocks_joined, i_Blocks_joined, k_Blocks_joined⟩
    F_cell_at := F_cell_at
    b_cell_at := F_cell_at.binds (ps := ["_law_script", "_law_k"]) fun _ _ _ _ _ _ us hl => match us, hl with | [_, _], _ => rfl
    m_cell_at := PySem.W.mg_of X G a_cell_at
    F_whole := F_whole
    b_whole := F_whole.binds (ps := ["_law_found", "_law_due"]) fun _ _ _ _ _ _ us hl => match us, hl with | [_, _], _ => rfl
    m_whole := PySem.W.mg_of X G a_whole
    F_rule_by := F_rule_by
    b_rule_by := F_rule_by.binds (ps := ["_law_cell"]) fun _ _ _ _ _ _ us hl => match us, hl with | [_], _ => rfl
    m_rule_by := PySem.W.mg_of X G a_rule_by
    F_top := F_top
    b_top := F_top.binds (ps := ["_law_rule"]) fun _ _ _ _ _ _ us hl => match us, hl with | [_], _ => rfl
    m_top := PySem.W.mg_of X G a_top
    F_mixed := F_mixed
    b_mixed := F_mixed.binds (ps := ["_law_cell", "_law_k"]) fun _ _ _ _ _ _ us hl => match us, hl with | [_, _], _ => rfl
    m_mixed := PySem.W.mg_of X G a_mixed
    F_symbols_by := F_symbols_by
    b_symbols_by := F_symbols_by.binds (ps := ["_law_script", "_law_many", "_law_top_here"]) fun _ _ _ _ _ _ us hl => match us, hl with | [_, _, _], _ => rfl
    m_symbols_by := PySem.W.mg_of X G a_symbols_by
    F_number := F_number
    b_number := F_number.binds (ps := ["_law_some", "_law_top_here"]) fun _ _ _ _ _ _ us hl => match us, hl with | [_, _], _ => rfl
    m_number := PySem.W.mg_of X G a_number
    F_alike := F_alike
    b_alike := F_alike.binds (ps := ["_law_found", "_law_due"]) fun _ _ _ _ _ _ us hl => match us, hl with | [_, _], _ => rfl
    m_alike := PySem.W.mg_of X G a_alike
    F_refused := F_refused
    b_refused := F_refused.binds (ps := ["_law_field", "_law_many"]) fun _ _ _ _ _ _ us hl => match us, hl with | [_, _], _ => rfl
    m_refused := PySem.W.mg_of X G a_refused
    F_good := F_good
    b_good := F_good.binds (ps := ["_law_blocks", "_law_number_here", "_law_limit"]) fun _ _ _ _ _ _ us hl => match us, hl with | [_, _, _], _ => rfl
    m_good := PySem.W.mg_of X G a_good
    F_law := F_law
    b_law := F_law.binds (ps := ["_law_script"]) fun _ _ _ _ _ _ us hl => match us, hl with | [_], _ => rfl
    m_law := PySem.W.mg_of X G a_law
    C_Field := ⟨pg_Field, hd_Field, po_Field, sa_Field⟩
    m_Field := PySem.W.mg_of X G C_Field
    M_Field := ⟨mk_Field, a_Field___init__, i_Field___init__, kc_Field⟩
    n_Field_rule := na_Field_rule
    n_Field_width := na_Field_width
    n_Field_last := na_Field_last
    n_Field_powers := na_Field_powers
    n_Field_logs := na_Field_logs
    C_Blocks := ⟨pg_Blocks, hd_Blocks, po_Blocks, sa_Blocks⟩
    m_Blocks := PySem.W.mg_of X G C_Blocks
    M_Blocks := ⟨mk_Blocks, a_Blocks___init__, i_Blocks___init__, kc_Blocks⟩
    n_Blocks_field := na_Blocks_field
    n_Blocks_many := na_Blocks_many
    n_Blocks_limit := na_Blocks_limit
    n_Blocks_ones := na_Blocks_ones
    m_PlankError := PySem.W.mg_of X G m_PlankError
    m_NoField := PySem.W.mg_of X G m_NoField
    m_NoBack := PySem.W.mg_of X G m_NoBack
    m_NoCode := PySem.W.mg_of X G m_NoCode
    m_NoShape := PySem.W.mg_of X G m_NoShape
    m_NoPlace := PySem.W.mg_of X G m_NoPlace
    m_NoBlock := PySem.W.mg_of X G m_NoBlock
    m_Gone := PySem.W.mg_of X G m_Gone
    m_Standing := PySem.W.mg_of X G m_Standing
    m_NoPower := PySem.W.mg_of X G m_NoPower
    m_WrongPlank := PySem.W.mg_of X G m_WrongPlank
    m_NoLine := PySem.W.mg_of X G m_NoLine
    X_Gone := ⟨xa_Gone, xb_Gone, xc_Gone, xd_Gone, xe_Gone, xf_Gone, xs1, xs2, xg_Gone, xh_Gone⟩
    X_NoBack := ⟨xa_NoBack, xb_NoBack, xc_NoBack, xd_NoBack, xe_NoBack, xf_NoBack, xs1, xs2, xg_NoBack, xh_NoBack⟩
    X_NoBlock := ⟨xa_NoBlock, xb_NoBlock, xc_NoBlock, xd_NoBlock, xe_NoBlock, xf_NoBlock, xs1, xs2, xg_NoBlock, xh_NoBlock⟩
    X_NoCode := ⟨xa_NoCode, xb_NoCode, xc_NoCode, xd_NoCode, xe_NoCode, xf_NoCode, xs1, xs2, xg_NoCode, xh_NoCode⟩
    X_NoField := ⟨xa_NoField, xb_NoField, xc_NoField, xd_NoField, xe_NoField, xf_NoField, xs1, xs2, xg_NoField, xh_NoField⟩
    X_NoLine := ⟨xa_NoLine, xb_NoLine, xc_NoLine, xd_NoLine, xe_NoLine, xf_NoLine, xs1, xs2, xg_NoLine, xh_NoLine⟩
    X_NoPlace := ⟨xa_NoPlace, xb_NoPlace, xc_NoPlace, xd_NoPlace, xe_NoPlace, xf_NoPlace, xs1, xs2, xg_NoPlace, xh_NoPlace⟩
    X_NoPower := ⟨xa_NoPower, xb_NoPower, xc_NoPower, xd_NoPower, xe_NoPower, xf_NoPower, xs1, xs2, xg_NoPower, xh_NoPower⟩
    X_NoShape := ⟨xa_NoShape, xb_NoShape, xc_NoShape, xd_NoShape, xe_NoShape, xf_NoShape, xs1, xs2, xg_NoShape, xh_NoShape⟩
    X_PlankError := ⟨xa_PlankError, xb_PlankError, xc_PlankError, xd_PlankError, xe_PlankError, xf_PlankError, xs1, xs2, xg_PlankError, xh_PlankError⟩
    X_Standing := ⟨xa_Standing, xb_Standing, xc_Standing, xd_Standing, xe_Standing, xf_Standing, xs1, xs2, xg_Standing, xh_Standing⟩
    X_WrongPlank := ⟨xa_WrongPlank, xb_WrongPlank, xc_WrongPlank, xd_WrongPlank, xe_WrongPlank, xf_WrongPlank, xs1, xs2, xg_WrongPlank, xh_WrongPlank⟩
    p_NoShape_Gone := p_NoShape_Gone
    p_NoShape_NoBack := p_NoShape_NoBack
    p_NoShape_NoBlock := p_NoShape_NoBlock
    p_NoShape_NoCode := p_NoShape_NoCode
    p_NoShape_NoField := p_NoShape_NoField
    p_NoShape_NoLine := p_NoShape_NoLine
    p_NoShape_NoPlace := p_NoShape_NoPlace
    p_NoShape_NoPower := p_NoShape_NoPower
    p_NoShape_NoShape := p_NoShape_NoShape
    p_NoShape_PlankError := p_NoShape_PlankError
    p_NoShape_Standing := p_NoShape_Standing
    p_NoShape_WrongPlank := p_NoShape_WrongPlank
    q_NoShape := q_NoShape
    kx_NoShape := kx_NoShape
    s_NoShape := s_NoShape
    t_NoShape_NoShape := VX.exm_of xa_NoShape xd_NoShape xh_NoShape p_NoShape_NoShape
    v_NoShape := v_NoShape
    g_MOST_SYMBOLS := ⟨_, PySem.W.mg_of X G g_MOST_SYMBOLS⟩
    g_LEAST_RULE := ⟨_, PySem.W.mg_of X G g_LEAST_RULE⟩
    g_END_OF_RULES := ⟨_, PySem.W.mg_of X G g_END_OF_RULES⟩
    n_ValueError := PySem.W.mg_none_of X G z_ValueError
    n_bool := PySem.W.mg_none_of X G z_bool
    n_enumerate := PySem.W.mg_none_of X G z_enumerate
    n_int := PySem.W.mg_none_of X G z_int
    n_isinstance := PySem.W.mg_none_of X G z_isinstance
    n_len := PySem.W.mg_none_of X G z_len
    n_list := PySem.W.mg_none_of X G z_list
    n_range := PySem.W.mg_none_of X G z_range
    n_reversed := PySem.W.mg_none_of X G z_reversed
    n_zip := PySem.W.mg_none_of X G z_zip
  }
  exact ⟨_, PySem.W.fnOf "law" "law" (defArgs s_law) (defBody s_law) (defScope s_law) .none kV_law dc_law pm_law an_law cd_law ct_law, rfl, fun s v => .of_eq rfl, fun base _ _ => ok_law T⟩
theorem walk {l : PySem.W.OpenLaw} {q : Program} {loose : List PySem.Str} {XP : (PySem.Str → Option Value) → Heap → Prop} {YP : World → Heap → Prop} {d : DefRec} {K : Params → PySem.W.Frag} (hn : l.most = some 63) (hdf : d.params.defaults = [])
    (hY : ∀ (w : World) (h : Heap), YP w h → (K w.params).In h)
    (F : ∀ (w : World) (mg : PySem.Str → Option Value) (fa : Addr) (h : Heap), (K w.params).In h → h.Ns mainGlobals mg → mg d.name = some (.ref fa) →
      ∃ (a : Ad) (fd : FuncData), fa = a.f_law ∧ (∀ (s : Shared) (u : Value), BindsTo s fd ⟨[u], []⟩ [("_law_script", u)]) ∧ ∀ base : Heap, (K w.params).In base → base.Ns mainGlobals mg → FnOk l.prog w (K w.params) mg base CX0 6 fa fd ["_law_script"] (sp_law (K w.params) a)) :
    PySem.W.WalkO q loose XP YP l.row.toRowW d [] (fun f vs => PySem.call f vs) :=
  L2.walk_of (n := 63) (k := 6) (x := "_law_script") (CX := fun _ => CX0) (sp := fun w vs H Q E => ∃ (ns : List Int) (Hv : Hp), Same Hv H ∧ Reps Hv vs [⟨tScr (K w.params), ns⟩] ∧ ns.length ≤ 63 ∧ ∀ v Hv' H', Grow Hv H Hv' H' → v = V.bl true → Q v H') hn (by decide) hdf ⟨rfl, by decide, by decide⟩ hY
    (fun w mg fa h h1 h2 h3 => by
      obtain ⟨a, fd, _, hb, hF⟩ := F w mg fa h h1 h2 h3
      exact ⟨fd, hb, fun base hi hns => FnOk.imp (hF base hi hns) fun vs H Q E h => by
        obtain ⟨ns, Hv, h1, h2, h3, h4⟩ := h
        exact ⟨ns, Hv, h1, h2, h3, h4⟩⟩)
    (fun _ _ a ns hl _ hS => ⟨ns, _, Same.refl _, .cons ⟨a, rfl, hS⟩ .nil, hl, fun v Hv' H' g e => e⟩) fun _ _ _ _ _ z => z
end Lw
open PySem PySem.W PyProof.Rows in
set_option maxRecDepth 100000 in
set_option maxHeartbeats 0 in
theorem PySem.Challenge.cw_spareplank_k05_symbols_and_blocks_holds : PySem.Challenge.rw_spareplank_k05_symbols_and_blocks.Holds := by
  w_on; o_law; k_head; (case hw => w_witness2)
  k_fill
  refine Lw.walk (l := PySem.Challenge.rw_spareplank_k05_symbols_and_blocks) rfl rfl (fun w h Y => PySem.W.kIn_of Y) ?F
  case F =>
    intro w mg fa h KX G hmg
    refine' Lw.all_mk KX G hmg ?x_m_PlankError ?x_m_NoField ?x_m_NoBack ?x_m_NoCode ?x_m_NoShape ?x_m_NoPlace ?x_m_NoBlock ?x_m_Gone ?x_m_Standing ?x_m_NoPower ?x_m_WrongPlank ?x_m_NoLine ?x_C_Field ?x_C_Blocks ?x_a_doubled ?x_l_doubled ?x_c_doubled ?x_k_doubled ?x_a_walk_of ?x_l_walk_of ?x_c_walk_of ?x_k_walk_of ?x_a_Field___init__ ?x_i_Field___init__ ?x_l_Field___init__ ?x_c_Field___init__ ?x_k_Field___init__ ?x_a_Blocks___init__ ?x_i_Blocks___init__ ?x_l_Blocks___init__ ?x_c_Blocks___init__ ?x_k_Blocks___init__ ?x_a_Blocks_good ?x_i_Blocks_good ?x_l_Blocks_good ?x_c_Blocks_good ?x_k_Blocks_good ?x_a_Blocks_symbols ?x_i_Blocks_symbols ?x_l_Blocks_symbols ?x_c_Blocks_symbols ?x_k_Blocks_symbols ?x_a_Blocks_joined ?x_i_Blocks_joined ?x_l_Blocks_joined ?x_c_Blocks_joined ?x_k_Blocks_joined ?x_a_cell_at ?x_l_cell_at ?x_c_cell_at ?x_k_cell_at ?x_a_whole ?x_l_whole ?x_c_whole ?x_k_whole ?x_a_rule_by ?x_l_rule_by ?x_c_rule_by ?x_k_rule_by ?x_a_top ?x_l_top ?x_c_top ?x_k_top ?x_a_mixed ?x_l_mixed ?x_c_mixed ?x_k_mixed ?x_a_symbols_by ?x_l_symbols_by ?x_c_symbols_by ?x_k_symbols_by ?x_a_number ?x_l_number ?x_c_number ?x_k_number ?x_a_alike ?x_l_alike ?x_c_alike ?x_k_alike ?x_a_refused ?x_l_refused ?x_c_refused ?x_k_refused ?x_a_good ?x_l_good ?x_c_good ?x_k_good ?x_a_law ?x_l_law ?x_c_law ?x_k_law ?x_xs1 ?x_xs2 ?x_xa_Gone ?x_xb_Gone ?x_xc_Gone ?x_xd_Gone ?x_xe_Gone ?x_xf_Gone ?x_xg_Gone ?x_xh_Gone ?x_xa_NoBack ?x_xb_NoBack ?x_xc_NoBack ?x_xd_NoBack ?x_xe_NoBack ?x_xf_NoBack ?x_xg_NoBack ?x_xh_NoBack ?x_xa_NoBlock ?x_xb_NoBlock ?x_xc_NoBlock ?x_xd_NoBlock ?x_xe_NoBlock ?x_xf_NoBlock ?x_xg_NoBlock ?x_xh_NoBlock ?x_xa_NoCode ?x_xb_NoCode ?x_xc_NoCode ?x_xd_NoCode ?x_xe_NoCode ?x_xf_NoCode ?x_xg_NoCode ?x_xh_NoCode ?x_xa_NoField ?x_xb_NoField ?x_xc_NoField ?x_xd_NoField ?x_xe_NoField ?x_xf_NoField ?x_xg_NoField ?x_xh_NoField ?x_xa_NoLine ?x_xb_NoLine ?x_xc_NoLine ?x_xd_NoLine ?x_xe_NoLine ?x_xf_NoLine ?x_xg_NoLine ?x_xh_NoLine ?x_xa_NoPlace ?x_xb_NoPlace ?x_xc_NoPlace ?x_xd_NoPlace ?x_xe_NoPlace ?x_xf_NoPlace ?x_xg_NoPlace ?x_xh_NoPlace ?x_xa_NoPower ?x_xb_NoPower ?x_xc_NoPower ?x_xd_NoPower ?x_xe_NoPower ?x_xf_NoPower ?x_xg_NoPower ?x_xh_NoPower ?x_xa_NoShape ?x_xb_NoShape ?x_xc_NoShape ?x_xd_NoShape ?x_xe_NoShape ?x_xf_NoShape ?x_xg_NoShape ?x_xh_NoShape ?x_xa_PlankError ?x_xb_PlankError ?x_xc_PlankError ?x_xd_PlankError ?x_xe_PlankError ?x_xf_PlankError ?x_xg_PlankError ?x_xh_PlankError ?x_xa_Standing ?x_xb_Standing ?x_xc_Standing ?x_xd_Standing ?x_xe_Standing ?x_xf_Standing ?x_xg_Standing ?x_xh_Standing ?x_xa_WrongPlank ?x_xb_WrongPlank ?x_xc_WrongPlank ?x_xd_WrongPlank ?x_xe_WrongPlank ?x_xf_WrongPlank ?x_xg_WrongPlank ?x_xh_WrongPlank ?x_p_NoShape_Gone ?x_p_NoShape_NoBack ?x_p_NoShape_NoBlock ?x_p_NoShape_NoCode ?x_p_NoShape_NoField ?x_p_NoShape_NoLine ?x_p_NoShape_NoPlace ?x_p_NoShape_NoPower ?x_p_NoShape_NoShape ?x_p_NoShape_PlankError ?x_p_NoShape_Standing ?x_p_NoShape_WrongPlank ?x_q_NoShape ?x_kx_NoShape ?x_s_NoShape ?x_v_NoShape ?x_pg_Field ?x_hd_Field ?x_po_Field ?x_sa_Field ?x_mk_Field ?x_kc_Field ?x_na_Field_rule ?x_na_Field_width ?x_na_Field_last ?x_na_Field_powers ?x_na_Field_logs ?x_pg_Blocks ?x_hd_Blocks ?x_po_Blocks ?x_sa_Blocks ?x_mk_Blocks ?x_kc_Blocks ?x_na_Blocks_field ?x_na_Blocks_many ?x_na_Blocks_limit ?x_na_Blocks_ones ?x_g_MOST_SYMBOLS ?x_g_LEAST_RULE ?x_g_END_OF_RULES ?x_z_ValueError ?x_z_bool ?x_z_enumerate ?x_z_int ?x_z_isinstance ?x_z_len ?x_z_list ?x_z_range ?x_z_reversed ?x_z_zip
    (case x_m_PlankError => k_is)
    (case x_m_NoField => k_is)
    (case x_m_NoBack => k_is)
    (case x_m_NoCode => k_is)
    (case x_m_NoShape => k_is)
    (case x_m_NoPlace => k_is)
    (case x_m_NoBlock => k_is)
    (case x_m_Gone => k_is)
    (case x_m_Standing => k_is)
    (case x_m_NoPower => k_is)
    (case x_m_WrongPlank => k_is)
    (case x_m_NoLine => k_is)
    (case x_C_Field => k_is)
    (case x_C_Blocks => k_is)
    (case x_a_doubled => k_is)
    (case x_l_doubled => k_is)
    (case x_c_doubled => k_is)
    (case x_k_doubled => k_is)
    (case x_a_walk_of => k_is)
    (case x_l_walk_of => k_is)
    (case x_c_walk_of => k_is)
    (case x_k_walk_of => k_is)
    (case x_a_Field___init__ => k_is)
    (case x_i_Field___init__ => k_is)
    (case x_l_Field___init__ => k_is)
    (case x_c_Field___init__ => k_is)
    (case x_k_Field___init__ => k_is)
    (case x_a_Blocks___init__ => k_is)
    (case x_i_Blocks___init__ => k_is)
    (case x_l_Blocks___init__ => k_is)
    (case x_c_Blocks___init__ => k_is)
    (case x_k_Blocks___init__ => k_is)
    (case x_a_Blocks_good => k_is)
    (case x_i_Blocks_good => k_is)
    (case x_l_Blocks_good => k_is)
    (case x_c_Blocks_good => k_is)
    (case x_k_Blocks_good => k_is)
    (case x_a_Blocks_symbols => k_is)
    (case x_i_Blocks_symbols => k_is)
    (case x_l_Blocks_symbols => k_is)
    (case x_c_Blocks_symbols => k_is)
    (case x_k_Blocks_symbols => k_is)
    (case x_a_Blocks_joined => k_is)
    (case x_i_Blocks_joined => k_is)
    (case x_l_Blocks_joined => k_is)
    (case x_c_Blocks_joined => k_is)
    (case x_k_Blocks_joined => k_is)
    (case x_a_cell_at => k_is)
    (case x_l_cell_at => k_is)
    (case x_c_cell_at => k_is)
    (case x_k_cell_at => k_is)
    (case x_a_whole => k_is)
    (case x_l_whole => k_is)
    (case x_c_whole => k_is)
    (case x_k_whole => k_is)
    (case x_a_rule_by => k_is)
    (case x_l_rule_by => k_is)
    (case x_c_rule_by => k_is)
    (case x_k_rule_by => k_is)
    (case x_a_top => k_is)
    (case x_l_top => k_is)
    (case x_c_top => k_is)
    (case x_k_top => k_is)
    (case x_a_mixed => k_is)
    (case x_l_mixed => k_is)
    (case x_c_mixed => k_is)
    (case x_k_mixed => k_is)
    (case x_a_symbols_by => k_is)
    (case x_l_symbols_by => k_is)
    (case x_c_symbols_by => k_is)
    (case x_k_symbols_by => k_is)
    (case x_a_number => k_is)
    (case x_l_number => k_is)
    (case x_c_number => k_is)
    (case x_k_number => k_is)
    (case x_a_alike => k_is)
    (case x_l_alike => k_is)
    (case x_c_alike => k_is)
    (case x_k_alike => k_is)
    (case x_a_refused => k_is)
    (case x_l_refused => k_is)
    (case x_c_refused => k_is)
    (case x_k_refused => k_is)
    (case x_a_good => k_is)
    (case x_l_good => k_is)
    (case x_c_good => k_is)
    (case x_k_good => k_is)
    (case x_a_law => k_is)
    (case x_l_law => k_is)
    (case x_c_law => k_is)
    (case x_k_law => k_is)
    (case x_xs1 => k_is)
    (case x_xs2 => k_is)
    (case x_xa_Gone => k_is)
    (case x_xb_Gone => k_is)
    (case x_xc_Gone => k_is)
    (case x_xd_Gone => k_is)
    (case x_xe_Gone => k_is)
    (case x_xf_Gone => k_is)
    (case x_xg_Gone => k_is)
    (case x_xh_Gone => k_is)
    (case x_xa_NoBack => k_is)
    (case x_xb_NoBack => k_is)
    (case x_xc_NoBack => k_is)
    (case x_xd_NoBack => k_is)
    (case x_xe_NoBack => k_is)
    (case x_xf_NoBack => k_is)
    (case x_xg_NoBack => k_is)
    (case x_xh_NoBack => k_is)
    (case x_xa_NoBlock => k_is)
    (case x_xb_NoBlock => k_is)
    (case x_xc_NoBlock => k_is)
    (case x_xd_NoBlock => k_is)
    (case x_xe_NoBlock => k_is)
    (case x_xf_NoBlock => k_is)
    (case x_xg_NoBlock => k_is)
    (case x_xh_NoBlock => k_is)
    (case x_xa_NoCode => k_is)
    (case x_xb_NoCode => k_is)
    (case x_xc_NoCode => k_is)
    (case x_xd_NoCode => k_is)
    (case x_xe_NoCode => k_is)
    (case x_xf_NoCode => k_is)
    (case x_xg_NoCode => k_is)
    (case x_xh_NoCode => k_is)
    (case x_xa_NoField => k_is)
    (case x_xb_NoField => k_is)
    (case x_xc_NoField => k_is)
    (case x_xd_NoField => k_is)
    (case x_xe_NoField => k_is)
    (case x_xf_NoField => k_is)
    (case x_xg_NoField => k_is)
    (case x_xh_NoField => k_is)
    (case x_xa_NoLine => k_is)
    (case x_xb_NoLine => k_is)
    (case x_xc_NoLine => k_is)
    (case x_xd_NoLine => k_is)
    (case x_xe_NoLine => k_is)
    (case x_xf_NoLine => k_is)
    (case x_xg_NoLine => k_is)
    (case x_xh_NoLine => k_is)
    (case x_xa_NoPlace => k_is)
    (case x_xb_NoPlace => k_is)
    (case x_xc_NoPlace => k_is)
    (case x_xd_NoPlace => k_is)
    (case x_xe_NoPlace => k_is)
    (case x_xf_NoPlace => k_is)
    (case x_xg_NoPlace => k_is)
    (case x_xh_NoPlace => k_is)
    (case x_xa_NoPower => k_is)
    (case x_xb_NoPower => k_is)
    (case x_xc_NoPower => k_is)
    (case x_xd_NoPower => k_is)
    (case x_xe_NoPower => k_is)
    (case x_xf_NoPower => k_is)
    (case x_xg_NoPower => k_is)
    (case x_xh_NoPower => k_is)
    (case x_xa_NoShape => k_is)
    (case x_xb_NoShape => k_is)
    (case x_xc_NoShape => k_is)
    (case x_xd_NoShape => k_is)
    (case x_xe_NoShape => k_is)
    (case x_xf_NoShape => k_is)
    (case x_xg_NoShape => k_is)
    (case x_xh_NoShape => k_is)
    (case x_xa_PlankError => k_is)
    (case x_xb_PlankError => k_is)
    (case x_xc_PlankError => k_is)
    (case x_xd_PlankError => k_is)
    (case x_xe_PlankError => k_is)
    (case x_xf_PlankError => k_is)
    (case x_xg_PlankError => k_is)
    (case x_xh_PlankError => k_is)
    (case x_xa_Standing => k_is)
    (case x_xb_Standing => k_is)
    (case x_xc_Standing => k_is)
    (case x_xd_Standing => k_is)
    (case x_xe_Standing => k_is)
    (case x_xf_Standing => k_is)
    (case x_xg_Standing => k_is)
    (case x_xh_Standing => k_is)
    (case x_xa_WrongPlank => k_is)
    (case x_xb_WrongPlank => k_is)
    (case x_xc_WrongPlank => k_is)
    (case x_xd_WrongPlank => k_is)
    (case x_xe_WrongPlank => k_is)
    (case x_xf_WrongPlank => k_is)
    (case x_xg_WrongPlank => k_is)
    (case x_xh_WrongPlank => k_is)
    (case x_p_NoShape_Gone => k_is)
    (case x_p_NoShape_NoBack => k_is)
    (case x_p_NoShape_NoBlock => k_is)
    (case x_p_NoShape_NoCode => k_is)
    (case x_p_NoShape_NoField => k_is)
    (case x_p_NoShape_NoLine => k_is)
    (case x_p_NoShape_NoPlace => k_is)
    (case x_p_NoShape_NoPower => k_is)
    (case x_p_NoShape_NoShape => k_is)
    (case x_p_NoShape_PlankError => k_is)
    (case x_p_NoShape_Standing => k_is)
    (case x_p_NoShape_WrongPlank => k_is)
    (case x_q_NoShape => k_exc)
    (case x_kx_NoShape => k_is)
    (case x_s_NoShape => k_is)
    (case x_v_NoShape => k_is)
    (case x_pg_Field => k_is)
    (case x_hd_Field => k_is)
    (case x_po_Field => k_is)
    (case x_sa_Field => k_is)
    (case x_mk_Field => k_is)
    (case x_kc_Field => k_is)
    (case x_na_Field_rule => k_is)
    (case x_na_Field_width => k_is)
    (case x_na_Field_last => k_is)
    (case x_na_Field_powers => k_is)
    (case x_na_Field_logs => k_is)
    (case x_pg_Blocks => k_is)
    (case x_hd_Blocks => k_is)
    (case x_po_Blocks => k_is)
    (case x_sa_Blocks => k_is)
    (case x_mk_Blocks => k_is)
    (case x_kc_Blocks => k_is)
    (case x_na_Blocks_field => k_is)
    (case x_na_Blocks_many => k_is)
    (case x_na_Blocks_limit => k_is)
    (case x_na_Blocks_ones => k_is)
    (case x_g_MOST_SYMBOLS => k_is)
    (case x_g_LEAST_RULE => k_is)
    (case x_g_END_OF_RULES => k_is)
    (case x_z_ValueError => k_is)
    (case x_z_bool => k_is)
    (case x_z_enumerate => k_is)
    (case x_z_int => k_is)
    (case x_z_isinstance => k_is)
    (case x_z_len => k_is)
    (case x_z_list => k_is)
    (case x_z_range => k_is)
    (case x_z_reversed => k_is)
    (case x_z_zip => k_is)
