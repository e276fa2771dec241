import PyProof.Rows.All
import Wide.All
import OpenK.AllK
import Wide.FinOn
import HandS.ForMost
import HandS.ForExc
import HandS.Walk
import HandS.More
import HandS.ExcInit
import HandS.ExcField
import HandS.ExcIs
import HandS.CallSlots
import HandS.TryMany
import HandS.WordsExc
import KE.KExcIs
import HandS.IsInst
import HandS.WideBits
import HandS.Wide
import HandS.SortInts
import HandS.Dict
import HandS.TupLen
import HandS.SetFor
import HandS.ExcValue
import HandS.Iter
import HandS.TryOnly
import HandS.Defaults
import HandS.Nested
import HandS.SortRule
import HandS.RevRange
import HandS.EndTab
import HandS.DictComp
import HandS.Finally
import HandS.Deep
import HandS.Text
import HandS.StrMore
import PySem.Challenge.RW_spareplank_k81_blocks_as_texts
set_option Elab.async false
set_option maxRecDepth 100000
set_option maxHeartbeats 4000000
namespace WM
open PySem PySem.Spec L2
structure Ty (α : Type) where
  rep : Hp → V → α → Prop
  mono : ∀ {H H' : Hp} {v : V} {x : α}, Same H H' → rep H v x → rep H' v x
def tInt : Ty Int := ⟨fun _ v x => v = .int x, fun _ h => h⟩
def tBool : Ty Bool := ⟨fun _ v x => v = .bl x, fun _ h => h⟩
def tStr : Ty Str := ⟨fun _ v x => v = .str x, fun _ h => h⟩
def tOpt {α : Type} (τ : Ty α) : Ty (Option α) := ⟨fun H v x => match x with | none => v = .non | some y => v ≠ .non ∧ τ.rep H v y, fun {H H' v x} s h => by
  cases x with
  | none => exact h
  | some y => exact ⟨h.1, τ.mono s h.2⟩⟩
theorem Paired.up {α : Type} {τ : Ty α} {H H' : Hp} (s : Same H H') : ∀ {vs : List V} {xs : List α}, Paired (τ.rep H) vs xs → Paired (τ.rep H') vs xs
  | _, _, .nil => .nil
  | _, _, .cons a t => .cons (τ.mono s a) (Paired.up s t)
def tList {α : Type} (τ : Ty α) : Ty (List α) := ⟨fun H v xs => ∃ a vs, v = .ref a ∧ H a = some (.lst vs) ∧ Paired (τ.rep H) vs xs, fun s ⟨a, vs, e, h, p⟩ => ⟨a, vs, e, s _ _ h, Paired.up s p⟩⟩
def tTup2 {α β : Type} (τ : Ty α) (υ : Ty β) : Ty (α × β) := ⟨fun H v x => ∃ a v1 v2, v = .ref a ∧ H a = some (.tup [v1, v2]) ∧ τ.rep H v1 x.1 ∧ υ.rep H v2 x.2,
  fun s ⟨a, v1, v2, e, h, p, q⟩ => ⟨a, v1, v2, e, s _ _ h, τ.mono s p, υ.mono s q⟩⟩
def tScr (K : PySem.W.Frag) : Ty (List Int) := ⟨fun H v ns => ∃ a, v = .ref a ∧ SqL K H a (ns.map V.int), fun s ⟨a, e, h⟩ => ⟨a, e, Same.seq s h⟩⟩
theorem paired_len {α β : Type} {F : α → β → Prop} : ∀ {l : List α} {m : List β}, Paired F l m → l.length = m.length
  | _, _, .nil => rfl
  | _, _, .cons _ t => by simp [paired_len t]
theorem paired_get {α β : Type} {F : α → β → Prop} : ∀ {l : List α} {m : List β} {i : Nat} {x : α}, Paired F l m → l[i]? = some x → ∃ y, m[i]? = some y ∧ F x y
  | _, _, 0, _, .cons a _, e => by
    simp at e
    subst e
    exact ⟨_, rfl, a⟩
  | _, _, i + 1, x, .cons _ t, e => by
    obtain ⟨y, h1, h2⟩ := paired_get (i := i) (x := x) t (by simpa using e)
    exact ⟨y, by simpa using h1, h2⟩
theorem paired_get' {α β : Type} {F : α → β → Prop} : ∀ {l : List α} {m : List β} {i : Nat} {y : β}, Paired F l m → m[i]? = some y → ∃ x, l[i]? = some x ∧ F x y
  | _, _, 0, _, .cons a _, e => by
    simp at e
    subst e
    exact ⟨_, rfl, a⟩
  | _, _, i + 1, y, .cons _ t, e => by
    obtain ⟨x, h1, h2⟩ := paired_get' (i := i) (y := y) t (by simpa using e)
    exact ⟨x, by simpa using h1, h2⟩
theorem paired_app {α β : Type} {F : α → β → Prop} : ∀ {l l' : List α} {m m' : List β}, Paired F l m → Paired F l' m' → Paired F (l ++ l') (m ++ m')
  | _, _, _, _, .nil, q => q
  | _, _, _, _, .cons a t, q => .cons a (paired_app t q)
theorem paired_rep {α β : Type} {F : α → β → Prop} {x : α} {y : β} (r : F x y) : ∀ n : Nat, Paired F (List.replicate n x) (List.replicate n y)
  | 0 => .nil
  | n + 1 => .cons r (paired_rep r n)
theorem int_paired {H : Hp} : ∀ {ns : List Int}, Paired (tInt.rep H) (ns.map V.int) ns
  | [] => .nil
  | _ :: _ => .cons rfl int_paired
structure Grow (Hv H Hv' H' : Hp) : Prop where
  s : Same H H'
  v : Same Hv Hv'
  vis : Same Hv' H'
  nw : ∀ b, H b ≠ none → Hv b = none → Hv' b = none
theorem Grow.refl {Hv H : Hp} (h : Same Hv H) : Grow Hv H Hv H := ⟨Same.refl _, Same.refl _, h, fun _ _ h => h⟩
theorem Same.some_ne {H H' : Hp} (s : Same H H') {b : Addr} (h : H b ≠ none) : H' b ≠ none := by
  cases e : H b with
  | none => exact absurd e h
  | some o =>
    rw [s _ _ e]
    exact fun z => nomatch z
theorem Grow.trans {A B C D E F : Hp} (g : Grow A B C D) (h : Grow C D E F) : Grow A B E F :=
  ⟨Same.trans g.s h.s, Same.trans g.v h.v, h.vis, fun b n z => h.nw b (Same.some_ne g.s n) (g.nw b n z)⟩
theorem same_upd {H : Hp} {p : Addr} {o : HO} (h : H p = none) : Same H (upd H p o) := fun b u e => by
  rw [upd_ne (ne_of_none e h)]
  exact e
theorem same_upd2 {H H' : Hp} {p : Addr} {o : HO} (s : Same H H') : Same (upd H p o) (upd H' p o) := fun b u e => by
  by_cases hb : b = p
  · subst hb
    rw [upd_same] at e ⊢
    exact e
  · rw [upd_ne hb] at e ⊢
    exact s _ _ e
theorem same_updR {H H' : Hp} {p : Addr} {o : HO} (s : Same H H') (h : H p = none) : Same H (upd H' p o) := fun b u e => by
  rw [upd_ne (ne_of_none e h)]
  exact s _ _ e
theorem Grow.new {Hv H : Hp} {p : Addr} {o : HO} (vis : Same Hv H) (h : H p = none) : Grow Hv H (upd Hv p o) (upd H p o) :=
  ⟨same_upd h, same_upd (Same.free vis h), same_upd2 vis, fun b n z => by
    have hb : b ≠ p := fun q => n (q ▸ h)
    rw [upd_ne hb]
    exact z⟩
theorem Grow.newO {Hv H : Hp} {p : Addr} {o : HO} (vis : Same Hv H) (h : H p = none) : Grow Hv H Hv (upd H p o) :=
  ⟨same_upd h, Same.refl _, same_updR vis (Same.free vis h), fun _ _ z => z⟩
theorem Grow.see {Hv H : Hp} {p : Addr} {o : HO} (vis : Same Hv H) (h : H p = some o) (hv : Hv p = none) : Same Hv (upd Hv p o) ∧ Same (upd Hv p o) H :=
  ⟨same_upd hv, fun b u e => by
    by_cases hb : b = p
    · subst hb
      rw [upd_same] at e
      cases e
      exact h
    · rw [upd_ne hb] at e
      exact vis _ _ e⟩
structure As : Type 1 where
  {α : Type}
  τ : Ty α
  x : α
inductive FsRep (H : Hp) : List (Str × V) → List (Str × As) → Prop
  | nil : FsRep H [] []
  | cons {n : Str} {v : V} {fs : List (Str × V)} {a : As} {as : List (Str × As)} : a.τ.rep H v a.x → FsRep H fs as → FsRep H ((n, v) :: fs) ((n, a) :: as)
theorem FsRep.up {H H' : Hp} (s : Same H H') {fs : List (Str × V)} {as : List (Str × As)} (h : FsRep H fs as) : FsRep H' fs as := by
  induction h with
  | nil => exact .nil
  | cons r _ ih => exact .cons (Ty.mono _ s r) ih
def emp : Hp := fun _ => none
def uni (A B : Hp) : Hp := fun b => match A b with
  | some o => some o
  | none => B b
def Disj (A B : Hp) : Prop := ∀ b, A b ≠ none → B b = none
theorem Disj.symm {A B : Hp} (d : Disj A B) : Disj B A := fun b n => by
  cases e : A b with
  | none => rfl
  | some o => exact absurd (d b (by rw [e]; exact fun z => nomatch z)) n
theorem Disj.empL {A : Hp} : Disj emp A := fun _ n => absurd rfl n
theorem Disj.empR {A : Hp} : Disj A emp := fun _ _ => rfl
theorem uni_none {A B : Hp} {b : Addr} : uni A B b = none ↔ A b = none ∧ B b = none := by
  unfold uni
  cases e : A b with
  | none => simp
  | some o => simp
theorem uni_l {A B : Hp} {b : Addr} {o : HO} (h : A b = some o) : uni A B b = some o := by
  unfold uni
  rw [h]
theorem uni_r {A B : Hp} {b : Addr} (h : A b = none) : uni A B b = B b := by
  unfold uni
  rw [h]
theorem uni_some {A B : Hp} {b : Addr} {o : HO} (h : uni A B b = some o) : A b = some o ∨ (A b = none ∧ B b = some o) := by
  cases e : A b with
  | none => exact .inr ⟨rfl, by rw [uni_r e] at h; exact h⟩
  | some p =>
    rw [uni_l e] at h
    exact .inl h
theorem uni_ne {A B : Hp} {b : Addr} (h : uni A B b ≠ none) : A b ≠ none ∨ B b ≠ none := by
  cases e : A b with
  | none => exact .inr (by rw [uni_r e] at h; exact h)
  | some o => exact .inl fun z => nomatch z
theorem uni_emp {A : Hp} : uni A emp = A := by
  funext b
  unfold uni emp
  cases A b <;> rfl
theorem uni_comm {A B : Hp} (d : Disj A B) : uni A B = uni B A := by
  funext b
  cases e : A b with
  | none =>
    rw [uni_r e]
    cases e2 : B b with
    | none => rw [uni_r e2, e]
    | some o => rw [uni_l e2]
  | some o =>
    rw [uni_l e, uni_r (d b (by rw [e]; exact fun z => nomatch z)), e]
theorem uni_assoc {A B C : Hp} : uni (uni A B) C = uni A (uni B C) := by
  funext b
  unfold uni
  cases A b <;> rfl
theorem same_uniL {A B : Hp} : Same A (uni A B) := fun _ _ e => uni_l e
theorem same_uniR {A B : Hp} (d : Disj A B) : Same B (uni A B) := by
  rw [uni_comm d]
  exact same_uniL
theorem same_uni {A B H : Hp} (a : Same A H) (b : Same B H) : Same (uni A B) H := fun c o e => by
  rcases uni_some e with h | ⟨_, h⟩
  · exact a _ _ h
  · exact b _ _ h
theorem Disj.uniL {A B C : Hp} (a : Disj A C) (b : Disj B C) : Disj (uni A B) C := fun c n => by
  rcases uni_ne n with h | h
  · exact a c h
  · exact b c h
theorem Disj.uniR {A B C : Hp} (a : Disj C A) (b : Disj C B) : Disj C (uni A B) := (Disj.uniL a.symm b.symm).symm
theorem Disj.l {A B C : Hp} (d : Disj (uni A B) C) : Disj A C := fun b n => d b fun z => n (uni_none.mp z).1
theorem Disj.r {A B C : Hp} (d : Disj (uni A B) C) : Disj B C := fun b n => d b fun z => n (uni_none.mp z).2
theorem Disj.sub {A A' C : Hp} (d : Disj A C) (h : ∀ b, A' b ≠ none → A b ≠ none) : Disj A' C := fun b n => d b (h b n)
theorem upd_uni {A B : Hp} {a : Addr} {o : HO} : uni (upd A a o) B = upd (uni A B) a o := by
  funext b
  by_cases h : b = a
  · subst h
    rw [upd_same, uni_l upd_same]
  · rw [upd_ne h]
    unfold uni
    rw [upd_ne h]
theorem ne_none_of {o : Option HO} {p : HO} (h : o = some p) : o ≠ none := by
  rw [h]
  exact fun z => nomatch z
theorem upd_ne_none {A : Hp} {a b : Addr} {o : HO} (h : upd A a o b ≠ none) : b = a ∨ A b ≠ none := by
  by_cases e : b = a
  · exact .inl e
  · rw [upd_ne e] at h
    exact .inr h
structure OTy (α : Type) where
  rep : Hp → Hp → V → α → Prop
  mono : ∀ {Hv Hv' h : Hp} {v : V} {x : α}, Same Hv Hv' → rep Hv h v x → rep Hv' h v x
def oF {α : Type} (τ : Ty α) : OTy α := ⟨fun Hv h v x => h = emp ∧ τ.rep Hv v x, fun s ⟨e, r⟩ => ⟨e, τ.mono s r⟩⟩
inductive OAll {α : Type} (μ : OTy α) (Hv : Hp) : Hp → List V → List α → Prop
  | nil : OAll μ Hv emp [] []
  | cons {h g : Hp} {v : V} {x : α} {vs : List V} {xs : List α} : μ.rep Hv h v x → OAll μ Hv g vs xs → Disj h g → OAll μ Hv (uni h g) (v :: vs) (x :: xs)
theorem OAll.up {α : Type} {μ : OTy α} {Hv Hv' h : Hp} {vs : List V} {xs : List α} (s : Same Hv Hv') (a : OAll μ Hv h vs xs) : OAll μ Hv' h vs xs := by
  induction a with
  | nil => exact .nil
  | cons r _ d ih => exact .cons (μ.mono s r) ih d
def oL {α : Type} (μ : OTy α) : OTy (List α) := ⟨fun Hv h v xs => ∃ l vs g, v = .ref l ∧ OAll μ Hv g vs xs ∧ g l = none ∧ h = upd g l (.lst vs), fun s ⟨l, vs, g, e, a, n, q⟩ => ⟨l, vs, g, e, a.up s, n, q⟩⟩
theorem OAll.len {α : Type} {μ : OTy α} {Hv h : Hp} {vs : List V} {xs : List α} (a : OAll μ Hv h vs xs) : vs.length = xs.length := by
  induction a with
  | nil => rfl
  | cons _ _ _ ih => simp [ih]
theorem OAll.app {α : Type} {μ : OTy α} {Hv g h : Hp} {v : V} {x : α} {vs : List V} {xs : List α} (a : OAll μ Hv g vs xs) (r : μ.rep Hv h v x) (d : Disj g h) : OAll μ Hv (uni g h) (vs ++ [v]) (xs ++ [x]) := by
  induction a with
  | nil =>
    have z : OAll μ Hv (uni h emp) [v] [x] := .cons r .nil Disj.empR
    rw [uni_emp] at z
    exact z
  | cons q _ dd ih =>
    rw [uni_assoc]
    exact .cons q (ih d.r) (Disj.uniR dd d.l)
theorem OAll.split {α : Type} {μ : OTy α} {Hv : Hp} : ∀ {k : Nat} {h : Hp} {vs : List V} {xs : List α}, OAll μ Hv h vs xs → ∃ g1 g2, h = uni g1 g2 ∧ Disj g1 g2 ∧ OAll μ Hv g1 (vs.take k) (xs.take k) ∧ OAll μ Hv g2 (vs.drop k) (xs.drop k)
  | 0, h, vs, xs, a => ⟨emp, h, rfl, Disj.empL, .nil, by simpa using a⟩
  | k + 1, _, _, _, .nil => ⟨emp, emp, rfl, Disj.empL, .nil, .nil⟩
  | k + 1, _, _, _, .cons r a d => by
    obtain ⟨g1, g2, e, dd, a1, a2⟩ := OAll.split (k := k) a
    subst e
    exact ⟨_, g2, uni_assoc.symm, Disj.uniL d.symm.r.symm dd, .cons r a1 d.symm.l.symm, a2⟩
theorem OAll.at {α : Type} {μ : OTy α} {Hv : Hp} : ∀ {k : Nat} {h : Hp} {vs : List V} {xs : List α} {x : α}, OAll μ Hv h vs xs → xs[k]? = some x → ∃ v h1 h2, vs[k]? = some v ∧ h = uni h1 h2 ∧ Disj h1 h2 ∧ μ.rep Hv h1 v x ∧
    ∀ Hv' h1' v' x', Same Hv Hv' → μ.rep Hv' h1' v' x' → Disj h1' h2 → OAll μ Hv' (uni h1' h2) (vs.set k v') (xs.set k x')
  | 0, _, _, _, x, .cons (h := h) (g := g) (v := v) r a d, e => by
    simp at e
    subst e
    exact ⟨v, h, g, rfl, rfl, d, r, fun Hv' h1' v' x' s r' d' => .cons r' (a.up s) d'⟩
  | k + 1, _, _, _, x, .cons (h := h) (g := g) r a d, e => by
    obtain ⟨v, h1, h2, e1, e2, d2, r2, up⟩ := OAll.at (k := k) a (by simpa using e)
    subst e2
    have d1 : Disj h h1 := d.symm.l.symm
    refine ⟨v, h1, uni h h2, by simpa using e1, ?_, Disj.uniR d1.symm d2, r2, fun Hv' h1' v' x' s r' d' => ?_⟩
    · rw [← uni_assoc, uni_comm d1, uni_assoc]
    · have dd : Disj h1' h := d'.symm.l.symm
      have : uni h1' (uni h h2) = uni h (uni h1' h2) := by rw [← uni_assoc, uni_comm dd, uni_assoc]
      rw [this]
      exact .cons (μ.mono s r) (up Hv' h1' v' x' s r' d'.symm.r.symm) (Disj.uniR dd.symm d.symm.r.symm)
theorem OAll.ofF {α : Type} {τ : Ty α} {Hv : Hp} : ∀ {vs : List V} {xs : List α}, Paired (τ.rep Hv) vs xs → OAll (oF τ) Hv emp vs xs
  | _, _, .nil => .nil
  | _, _, .cons r t => by
    have z : OAll (oF τ) Hv (uni emp emp) _ _ := .cons (h := emp) ⟨rfl, r⟩ (OAll.ofF t) Disj.empL
    exact z
structure Frz {α : Type} (μ : OTy α) (τ : Ty α) : Prop where
  run : ∀ {Hv h : Hp} {v : V} {x : α}, μ.rep Hv h v x → Disj h Hv → τ.rep (uni Hv h) v x
theorem frz_F {α : Type} {τ : Ty α} : Frz (oF τ) τ := ⟨fun ⟨e, r⟩ _ => by subst e; rw [uni_emp]; exact r⟩
theorem OAll.frz {α : Type} {μ : OTy α} {τ : Ty α} (f : Frz μ τ) {Hv h : Hp} {vs : List V} {xs : List α} (a : OAll μ Hv h vs xs) : Disj h Hv → Paired (τ.rep (uni Hv h)) vs xs := by
  induction a with
  | nil => exact fun _ => .nil
  | @cons h g v x vs xs r _ d ih =>
    intro dd
    refine .cons (τ.mono ?_ (f.run r dd.l)) (Paired.up ?_ (ih dd.r))
    · rw [← uni_assoc]
      exact same_uniL
    · rw [uni_comm d, ← uni_assoc]
      exact same_uniL
theorem frz_L {α : Type} {μ : OTy α} {τ : Ty α} (f : Frz μ τ) : Frz (oL μ) (tList τ) := ⟨fun {Hv h v x} ⟨l, vs, g, e, a, n, q⟩ d => by
  subst e q
  have dg : Disj g Hv := fun b nb => d b (by
    by_cases hb : b = l
    · subst hb
      rw [n] at nb
      exact absurd rfl nb
    · rw [upd_ne hb]
      exact nb)
  have nl : Hv l = none := d l (by rw [upd_same]; exact fun z => nomatch z)
  refine ⟨l, vs, rfl, by rw [uni_r nl]; exact upd_same, Paired.up (fun b o e => ?_) (a.frz f dg)⟩
  rcases uni_some e with h | ⟨h1, h2⟩
  · exact uni_l h
  · rw [uni_r h1, upd_ne (ne_of_none h2 n)]
    exact h2⟩
inductive Ent : Type 1
  | fz {α : Type} (τ : Ty α) (x : α)
  | ow {α : Type} (k : Option Addr) (μ : OTy α) (x : α)
  | tv {α : Type} (v : V) (μ : OTy α) (x : α)
def Ent.o : Ent → Bool
  | .fz _ _ => false
  | _ => true
def Holds (σ : St) (i : Nat) (v : V) : Option Addr → Prop
  | none => σ[i]? = some (some v)
  | some a => v = .ref a
def EntOk (σ : St) (Hv h : Hp) (i : Nat) : Ent → Prop
  | .fz τ x => ∃ v, σ[i]? = some (some v) ∧ τ.rep Hv v x
  | .ow k μ x => ∃ v, Holds σ i v k ∧ μ.rep Hv h v x
  | .tv v μ x => μ.rep Hv h v x
abbrev Cxt := List (Nat × Ent)
def get (i : Nat) : Cxt → Option Ent
  | [] => none
  | (j, e) :: Γ => bif Nat.beq j i then some e else get i Γ
def del (i : Nat) : Cxt → Cxt
  | [] => []
  | (j, e) :: Γ => bif Nat.beq j i then del i Γ else (j, e) :: del i Γ
def put (i : Nat) (e : Ent) (Γ : Cxt) : Cxt := (i, e) :: del i Γ
theorem get_mem {i : Nat} {e : Ent} : ∀ {Γ : Cxt}, get i Γ = some e → (i, e) ∈ Γ
  | [], h => nomatch h
  | (j, f) :: Γ, h => by
    unfold get at h
    cases q : Nat.beq j i with
    | true =>
      rw [q] at h
      have e1 : some f = some e := h
      cases e1
      have := Nat.eq_of_beq_eq_true q
      subst this
      exact List.mem_cons_self
    | false =>
      rw [q] at h
      exact List.mem_cons_of_mem _ (get_mem h)
theorem del_mem {i j : Nat} {e : Ent} : ∀ {Γ : Cxt}, (j, e) ∈ del i Γ → j ≠ i ∧ (j, e) ∈ Γ
  | (k, f) :: Γ, h => by
    unfold del at h
    cases q : Nat.beq k i with
    | true =>
      rw [q] at h
      have z := del_mem (Γ := Γ) h
      exact ⟨z.1, List.mem_cons_of_mem _ z.2⟩
    | false =>
      rw [q] at h
      rcases List.mem_cons.mp h with h | h
      · cases h
        exact ⟨Nat.ne_of_beq_eq_false q, List.mem_cons_self⟩
      · have z := del_mem (Γ := Γ) h
        exact ⟨z.1, List.mem_cons_of_mem _ z.2⟩
theorem put_mem {i j : Nat} {e f : Ent} {Γ : Cxt} (h : (j, f) ∈ put i e Γ) : (j = i ∧ f = e) ∨ (j ≠ i ∧ (j, f) ∈ Γ) := by
  rcases List.mem_cons.mp h with h | h
  · cases h
    exact .inl ⟨rfl, rfl⟩
  · exact .inr (del_mem h)
structure Bs where
  H0 : Hp
  Hv0 : Hp
  own : Addr → Prop
  n : Nat
structure OwF (B : Bs) (Γ : Cxt) (σ : St) (Hv H : Hp) (F : Nat → Hp) : Prop where
  ent : ∀ i e, (i, e) ∈ Γ → EntOk σ Hv (F i) i e
  sub : ∀ i e, (i, e) ∈ Γ → e.o = true → Same (F i) H
  hid : ∀ i e, (i, e) ∈ Γ → e.o = true → Disj (F i) Hv
  new : ∀ i e b, (i, e) ∈ Γ → e.o = true → F i b ≠ none → B.H0 b = none ∨ B.own b
  dis : ∀ i j e f, (i, e) ∈ Γ → (j, f) ∈ Γ → e.o = true → f.o = true → i ≠ j → Disj (F i) (F j)
structure Wd (B : Bs) (Γ : Cxt) (σ : St) (Hv H : Hp) : Prop where
  len : σ.length = B.n
  vis : Same Hv H
  s0 : ∀ b o, ¬ B.own b → B.H0 b = some o → H b = some o
  a0 : ∀ b, B.H0 b ≠ none → H b ≠ none
  v0 : Same B.Hv0 Hv
  nw : ∀ b, ¬ B.own b → B.H0 b ≠ none → B.Hv0 b = none → Hv b = none
  ow : ∃ F, OwF B Γ σ Hv H F
structure Chg (Hv H h Hv' H' h' : Hp) : Prop where
  s : ∀ b o, h b = none → H b = some o → H' b = some o
  a : ∀ b, H b ≠ none → H' b ≠ none
  v : Same Hv Hv'
  vis : Same Hv' H'
  nw : ∀ b, h b = none → H b ≠ none → Hv b = none → Hv' b = none
  sub : Same h' H'
  hid : Disj h' Hv'
  new : ∀ b, h' b ≠ none → h b ≠ none ∨ H b = none
section
variable {B : Bs} {Γ : Cxt} {σ : St} {Hv H Hv' H' h h' Hv2 H2 h2 : Hp} {α : Type} {τ : Ty α} {μ : OTy α} {x : α} {i : Nat}
theorem Grow.chg (g : Grow Hv H Hv' H') : Chg Hv H emp Hv' H' emp :=
  ⟨fun b o _ e => g.s _ _ e, fun b n => Same.some_ne g.s n, g.v, g.vis, fun b _ n z => g.nw b n z, fun _ _ e => (nomatch e), Disj.empL, fun b n => absurd rfl n⟩
theorem Chg.grow (c : Chg Hv H emp Hv' H' h') : Grow Hv H Hv' H' := ⟨fun b o e => c.s b o rfl e, c.v, c.vis, fun b n z => c.nw b rfl n z⟩
theorem Chg.trans (c : Chg Hv H h Hv' H' h') (d : Chg Hv' H' h' Hv2 H2 h2) : Chg Hv H h Hv2 H2 h2 := by
  have key : ∀ b, h b = none → H b ≠ none → h' b = none := fun b e n => by
    cases q : h' b with
    | none => rfl
    | some o =>
      rcases c.new b (ne_none_of q) with z | z
      · exact absurd e z
      · exact absurd z n
  refine ⟨fun b o e q => d.s b o (key b e (ne_none_of q)) (c.s b o e q), fun b n => d.a b (c.a b n), Same.trans c.v d.v, d.vis, fun b e n z => d.nw b (key b e n) (c.a b n) (c.nw b e n z), d.sub, d.hid, fun b n => ?_⟩
  rcases d.new b n with z | z
  · exact c.new b z
  · refine .inr ?_
    cases q : H b with
    | none => rfl
    | some o => exact absurd z (c.a b (ne_none_of q))
theorem Chg.frame {g : Hp} (c : Chg Hv H h Hv' H' h') (sg : Same g H) (dg : Disj g Hv) (dh : Disj g h) : Same g H' ∧ Disj g Hv' ∧ Disj g h' := by
  refine ⟨fun b o e => c.s b o (dh b (ne_none_of e)) (sg _ _ e), fun b n => c.nw b (dh b n) (Same.some_ne sg n) (dg b n), fun b n => ?_⟩
  cases q : h' b with
  | none => rfl
  | some o =>
    rcases c.new b (ne_none_of q) with z | z
    · exact absurd (dh b n) z
    · exact absurd z (Same.some_ne sg n)
theorem EntOk.up {e : Ent} (s : Same Hv Hv') (r : EntOk σ Hv h i e) : EntOk σ Hv' h i e := by
  cases e with
  | fz τ x =>
    obtain ⟨v, h1, h2⟩ := r
    exact ⟨v, h1, τ.mono s h2⟩
  | ow k μ x =>
    obtain ⟨v, h1, h2⟩ := r
    exact ⟨v, h1, μ.mono s h2⟩
  | tv v μ x => exact μ.mono s r
theorem EntOk.st {e : Ent} {σ' : St} (hs : σ'[i]? = σ[i]?) (r : EntOk σ Hv h i e) : EntOk σ' Hv h i e := by
  cases e with
  | fz τ x =>
    obtain ⟨v, h1, h2⟩ := r
    exact ⟨v, by rw [hs]; exact h1, h2⟩
  | ow k μ x =>
    obtain ⟨v, h1, h2⟩ := r
    refine ⟨v, ?_, h2⟩
    cases k with
    | none => exact hs.trans h1
    | some a => exact h1
  | tv v μ x => exact r
theorem Wd.fz (w : Wd B Γ σ Hv H) (m : (i, .fz τ x) ∈ Γ) : ∃ v, σ[i]? = some (some v) ∧ τ.rep Hv v x := by
  obtain ⟨F, o⟩ := w.ow
  exact o.ent _ _ m
theorem Wd.step {σ' : St} {e' : Ent} (w : Wd B Γ σ Hv H) (F : Nat → Hp) (o : OwF B Γ σ Hv H F) (i : Nat) (hl : σ'.length = B.n) (hσ : ∀ j, j ≠ i → σ'[j]? = σ[j]?)
    (hF : ∀ j e, (j, e) ∈ Γ → j ≠ i → e.o = true → Disj (F j) h) (hn : ∀ b, h b ≠ none → B.H0 b = none ∨ B.own b) (c : Chg Hv H h Hv' H' h') (he : EntOk σ' Hv' h' i e') : Wd B (put i e' Γ) σ' Hv' H' where
  len := hl
  vis := c.vis
  s0 := fun b ob n e => c.s b ob (by
    cases q : h b with
    | none => rfl
    | some oo =>
      rcases hn b (ne_none_of q) with z | z
      · rw [z] at e
        cases e
      · exact absurd z n) (w.s0 b ob n e)
  a0 := fun b n => c.a b (w.a0 b n)
  v0 := Same.trans w.v0 c.v
  nw := fun b no n z => c.nw b (by
    cases q : h b with
    | none => rfl
    | some oo =>
      rcases hn b (ne_none_of q) with z | z
      · exact absurd z n
      · exact absurd z no) (w.a0 b n) (w.nw b no n z)
  ow := by
    refine ⟨fun j => bif Nat.beq j i then h' else F j, ?_, ?_, ?_, ?_, ?_⟩
    · intro j e m
      rcases put_mem m with ⟨rfl, rfl⟩ | ⟨hj, m⟩
      · rw [show Nat.beq j j = true from Nat.beq_refl j]
        exact he
      · rw [show Nat.beq j i = false from by cases q : Nat.beq j i with
          | false => rfl
          | true => exact absurd (Nat.eq_of_beq_eq_true q) hj]
        exact ((o.ent j e m).up c.v).st (hσ j hj)
    · intro j e m oo
      rcases put_mem m with ⟨rfl, rfl⟩ | ⟨hj, m⟩
      · rw [show Nat.beq j j = true from Nat.beq_refl j]
        exact c.sub
      · rw [show Nat.beq j i = false from by cases q : Nat.beq j i with
          | false => rfl
          | true => exact absurd (Nat.eq_of_beq_eq_true q) hj]
        exact (c.frame (o.sub j e m oo) (o.hid j e m oo) (hF j e m hj oo)).1
    · intro j e m oo
      rcases put_mem m with ⟨rfl, rfl⟩ | ⟨hj, m⟩
      · rw [show Nat.beq j j = true from Nat.beq_refl j]
        exact c.hid
      · rw [show Nat.beq j i = false from by cases q : Nat.beq j i with
          | false => rfl
          | true => exact absurd (Nat.eq_of_beq_eq_true q) hj]
        exact (c.frame (o.sub j e m oo) (o.hid j e m oo) (hF j e m hj oo)).2.1
    · intro j e b m oo
      rcases put_mem m with ⟨rfl, rfl⟩ | ⟨hj, m⟩
      · rw [show Nat.beq j j = true from Nat.beq_refl j]
        intro n
        rcases c.new b n with z | z
        · exact hn b z
        · refine .inl ?_
          cases q : B.H0 b with
          | none => rfl
          | some ob => exact absurd z (w.a0 b (ne_none_of q))
      · rw [show Nat.beq j i = false from by cases q : Nat.beq j i with
          | false => rfl
          | true => exact absurd (Nat.eq_of_beq_eq_true q) hj]
        exact o.new j e b m oo
    · intro j k e f m1 m2 o1 o2 hjk
      rcases put_mem m1 with ⟨rfl, rfl⟩ | ⟨hj, n1⟩
      · rcases put_mem m2 with ⟨rfl, rfl⟩ | ⟨hk, m2⟩
        · exact absurd rfl hjk
        · rw [show Nat.beq j j = true from Nat.beq_refl j, show Nat.beq k j = false from by cases q : Nat.beq k j with
            | false => rfl
            | true => exact absurd (Nat.eq_of_beq_eq_true q) hk]
          exact (c.frame (o.sub k f m2 o2) (o.hid k f m2 o2) (hF k f m2 hk o2)).2.2.symm
      · rw [show Nat.beq j i = false from by cases q : Nat.beq j i with
          | false => rfl
          | true => exact absurd (Nat.eq_of_beq_eq_true q) hj]
        rcases put_mem m2 with ⟨rfl, rfl⟩ | ⟨hk, m2⟩
        · rw [show Nat.beq k k = true from Nat.beq_refl k]
          exact (c.frame (o.sub j e n1 o1) (o.hid j e n1 o1) (hF j e n1 hj o1)).2.2
        · rw [show Nat.beq k i = false from by cases q : Nat.beq k i with
            | false => rfl
            | true => exact absurd (Nat.eq_of_beq_eq_true q) hk]
          exact o.dis j k e f n1 m2 o1 o2 hjk
theorem Wd.grow (w : Wd B Γ σ Hv H) (g : Grow Hv H Hv' H') : Wd B Γ σ Hv' H' where
  len := w.len
  vis := g.vis
  s0 := fun b o n e => g.s _ _ (w.s0 b o n e)
  a0 := fun b n => Same.some_ne g.s (w.a0 b n)
  v0 := Same.trans w.v0 g.v
  nw := fun b no n z => g.nw b (w.a0 b n) (w.nw b no n z)
  ow := by
    obtain ⟨F, o⟩ := w.ow
    exact ⟨F, fun i e m => (o.ent i e m).up g.v, fun i e m oo => Same.trans (o.sub i e m oo) g.s, fun i e m oo b n => g.nw b (Same.some_ne (o.sub i e m oo) n) (o.hid i e m oo b n), o.new, o.dis⟩
theorem Wd.sub {Δ : Cxt} (w : Wd B Γ σ Hv H) (hs : ∀ p ∈ Δ, p ∈ Γ) : Wd B Δ σ Hv H where
  len := w.len
  vis := w.vis
  s0 := w.s0
  a0 := w.a0
  v0 := w.v0
  nw := w.nw
  ow := by
    obtain ⟨F, o⟩ := w.ow
    exact ⟨F, fun i e m => o.ent i e (hs _ m), fun i e m => o.sub i e (hs _ m), fun i e m => o.hid i e (hs _ m), fun i e b m => o.new i e b (hs _ m), fun i j e f m m' => o.dis i j e f (hs _ m) (hs _ m')⟩
theorem Wd.put {v : V} (w : Wd B Γ σ Hv H) (i : Nat) (hi : i < B.n) (r : τ.rep Hv v x) : Wd B (put i (.fz τ x) Γ) (σ.set i (some v)) Hv H := by
  obtain ⟨F, o⟩ := w.ow
  refine w.step F o i (h := emp) (h' := emp) (by rw [List.length_set]; exact w.len) (fun j hj => List.getElem?_set_ne (Ne.symm hj)) (fun _ _ _ _ _ => Disj.empR) (fun b n => absurd rfl n) (Grow.refl w.vis).chg ⟨v, ?_, r⟩
  rw [List.getElem?_set_self (by rw [w.len]; exact hi)]
theorem Wd.putO {v : V} (w : Wd B Γ σ Hv H) (i : Nat) (hi : i < B.n) (c : Chg Hv H emp Hv' H' h') (r : μ.rep Hv' h' v x) : Wd B (WM.put i (.ow none μ x) Γ) (σ.set i (some v)) Hv' H' := by
  obtain ⟨F, o⟩ := w.ow
  refine w.step F o i (by rw [List.length_set]; exact w.len) (fun j hj => List.getElem?_set_ne (Ne.symm hj)) (fun _ _ _ _ _ => Disj.empR) (fun b n => absurd rfl n) c ⟨v, ?_, r⟩
  show (σ.set i (some v))[i]? = some (some v)
  rw [List.getElem?_set_self (by rw [w.len]; exact hi)]
theorem Wd.open {k : Option Addr} (w : Wd B Γ σ Hv H) (m : (i, .ow k μ x) ∈ Γ) : ∃ v h, Holds σ i v k ∧ μ.rep Hv h v x ∧ Same h H ∧ Disj h Hv ∧
    ∀ {β : Type} (ν : OTy β) (y : β) (Hv' H' h' : Hp), Chg Hv H h Hv' H' h' → ν.rep Hv' h' v y → Wd B (WM.put i (.ow k ν y) Γ) σ Hv' H' := by
  obtain ⟨F, o⟩ := w.ow
  obtain ⟨v, h1, h2⟩ := o.ent _ _ m
  exact ⟨v, F i, h1, h2, o.sub _ _ m rfl, o.hid _ _ m rfl, fun ν y Hv' H' h' c r => w.step F o i w.len (fun j hj => rfl) (fun j e m' hj oo => o.dis j i e _ m' m oo rfl hj) (fun b n => o.new i _ b m rfl n) c ⟨v, h1, r⟩⟩
theorem Wd.freeze (f : Frz μ τ) (w : Wd B Γ σ Hv H) (m : (i, .ow none μ x) ∈ Γ) : ∃ Hv', Same Hv Hv' ∧ Same Hv' H ∧ Wd B (WM.put i (.fz τ x) Γ) σ Hv' H := by
  obtain ⟨F, o⟩ := w.ow
  obtain ⟨v, h1, h2⟩ := o.ent _ _ m
  have hid := o.hid _ _ m rfl
  refine ⟨uni Hv (F i), same_uniL, same_uni w.vis (o.sub _ _ m rfl), ?_⟩
  refine w.step F o i (h := F i) (h' := emp) w.len (fun j hj => rfl) (fun j e m' hj oo => o.dis j i e _ m' m oo rfl hj) (fun b n => o.new i _ b m rfl n) ⟨fun _ _ _ e => e, fun _ n => n, same_uniL, same_uni w.vis (o.sub _ _ m rfl), fun b e n z => ?_, fun _ _ e => (nomatch e), Disj.empL, fun b n => absurd rfl n⟩ ⟨v, h1, f.run h2 hid⟩
  rw [uni_r z]
  exact e
theorem Wd.forget (w : Wd B Γ σ Hv H) (i : Nat) (u : Option V) : Wd B (WM.del i Γ) (σ.set i u) Hv H where
  len := by rw [List.length_set]; exact w.len
  vis := w.vis
  s0 := w.s0
  a0 := w.a0
  v0 := w.v0
  nw := w.nw
  ow := by
    obtain ⟨F, o⟩ := w.ow
    exact ⟨F, fun j e m => (o.ent j e (del_mem m).2).st (List.getElem?_set_ne (Ne.symm (del_mem m).1)), fun i e m => o.sub i e (del_mem m).2, fun i e m => o.hid i e (del_mem m).2, fun i e b m => o.new i e b (del_mem m).2, fun i j e f m m' => o.dis i j e f (del_mem m).2 (del_mem m').2⟩
end
end WM
set_option Elab.async false
set_option maxRecDepth 100000
set_option maxHeartbeats 4000000
namespace WM
open PySem PySem.Spec L2
section
variable {B : Bs} {Γ : Cxt} {α β γ δ : Type} {τ : Ty α} {υ : Ty β} {φ : Ty γ} {x : α} {y : β} {z : γ}
def Sm (B : Bs) (Γ : Cxt) (t : TE) (τ : Ty α) (x : α) : Prop := ∀ (σ : L2.St) (Hv H : Hp), Wd B Γ σ Hv H → ∀ Q : VK, (∀ v Hv' H', Grow Hv H Hv' H' → τ.rep Hv' v x → Q v H') → t σ H Q
def SmT (B : Bs) (Γ : Cxt) (t : TT) (b : Bool) : Prop := ∀ (σ : L2.St) (Hv H : Hp), Wd B Γ σ Hv H → ∀ Q : Bool → Hp → Prop, (∀ Hv' H', Grow Hv H Hv' H' → Q b H') → t σ H Q
def SmO (B : Bs) (Γ : Cxt) (t : TE) (τ : Ty α) (xs : List α) : Prop := ∀ (σ : L2.St) (Hv H : Hp), Wd B Γ σ Hv H → ∀ Q : VK,
  (∀ l vs Hv' H', Grow Hv H Hv' H' → H l = none → H' l = some (.lst vs) → Hv' l = none → Paired (τ.rep Hv') vs xs → Q (.ref l) H') → t σ H Q
def SmL (B : Bs) (Γ : Cxt) (t : TE) (τ : Ty α) (xs : List α) : Prop := ∀ (σ : L2.St) (Hv H : Hp), Wd B Γ σ Hv H → ∀ Q : VK,
  (∀ a vs Hv' H', Grow Hv H Hv' H' → H' a = some (.lst vs) → Paired (τ.rep Hv') vs xs → Q (.ref a) H') → t σ H Q
inductive Reps (Hv : Hp) : List V → List As → Prop
  | nil : Reps Hv [] []
  | cons {v : V} {vs : List V} {a : As} {as : List As} : a.τ.rep Hv v a.x → Reps Hv vs as → Reps Hv (v :: vs) (a :: as)
theorem Reps.up {H H' : Hp} (s : Same H H') {vs : List V} {as : List As} (h : Reps H vs as) : Reps H' vs as := by
  induction h with
  | nil => exact .nil
  | cons r _ ih => exact .cons (Ty.mono _ s r) ih
def SmA (B : Bs) (Γ : Cxt) (t : TA) (as : List As) : Prop := ∀ (σ : L2.St) (Hv H : Hp), Wd B Γ σ Hv H → ∀ Q : List V → Hp → Prop, (∀ vs Hv' H', Grow Hv H Hv' H' → Reps Hv' vs as → Q vs H') → t σ H Q
theorem sma_nil : SmA B Γ tNil [] := fun _ _ _ w _ k => k _ _ _ (Grow.refl w.vis) .nil
theorem sma_cons {ta : TE} {tr : TA} {as : List As} (ha : Sm B Γ ta τ x) (hr : SmA B Γ tr as) : SmA B Γ (tCons ta tr) (⟨τ, x⟩ :: as) := fun σ Hv H w Q k =>
  ha σ Hv H w _ fun v Hv1 H1 g1 r1 => hr σ Hv1 H1 (w.grow g1) _ fun vs Hv2 H2 g2 r2 => k _ _ _ (g1.trans g2) (.cons (τ.mono g2.v r1) r2)
theorem Sm.of_own {t : TE} {xs : List α} (h : SmO B Γ t τ xs) : Sm B Γ t (tList τ) xs := fun σ Hv H w Q k => h σ Hv H w Q fun l vs Hv' H' g h0 h1 h2 r => by
  obtain ⟨s1, s2⟩ := Grow.see g.vis h1 h2
  refine k _ (upd Hv' l (.lst vs)) H' ⟨g.s, Same.trans g.v s1, s2, fun b n z => ?_⟩ ⟨l, vs, rfl, upd_same, Paired.up s1 r⟩
  have hb : b ≠ l := fun q => n (q ▸ h0)
  rw [upd_ne hb]
  exact g.nw b n z
theorem SmL.of {t : TE} {xs : List α} (h : Sm B Γ t (tList τ) xs) : SmL B Γ t τ xs := fun σ Hv H w Q k => h σ Hv H w Q fun v Hv' H' g r => by
  obtain ⟨a, vs, rfl, e, p⟩ := r
  exact k _ _ _ _ g (g.vis _ _ e) p
theorem SmL.of_own {t : TE} {xs : List α} (h : SmO B Γ t τ xs) : SmL B Γ t τ xs := SmL.of (Sm.of_own h)
theorem sm_var {i : Nat} (h : get i Γ = some (.fz τ x)) : Sm B Γ (tVar i) τ x := fun σ Hv H w Q k => by
  obtain ⟨v, e, r⟩ := w.fz (get_mem h)
  exact ⟨v, e, k _ _ _ (Grow.refl w.vis) r⟩
theorem sm_int {n : Int} : Sm B Γ (tC (.int n)) tInt n := fun _ _ _ w _ k => k _ _ _ (Grow.refl w.vis) rfl
theorem sm_bl {b : Bool} : Sm B Γ (tC (.bl b)) tBool b := fun _ _ _ w _ k => k _ _ _ (Grow.refl w.vis) rfl
theorem sm_str {s : Str} : Sm B Γ (tC (.str s)) tStr s := fun _ _ _ w _ k => k _ _ _ (Grow.refl w.vis) rfl
theorem sm_none : Sm B Γ (tC .non) (tOpt τ) none := fun _ _ _ w _ k => k _ _ _ (Grow.refl w.vis) rfl
def OpV (r : R2) (τ : Ty α) (υ : Ty β) (φ : Ty γ) (x : α) (y : β) (z : γ) : Prop := ∀ (Hv H : Hp) (v w : V), Same Hv H → τ.rep Hv v x → υ.rep Hv w y → ∀ Q : VK, (∀ u Hv' H', Grow Hv H Hv' H' → φ.rep Hv' u z → Q u H') → r v w H Q
theorem sm_op {r : R2} {ta tb : TE} (ha : Sm B Γ ta τ x) (hb : Sm B Γ tb υ y) (o : OpV r τ υ φ x y z) : Sm B Γ (tOp r ta tb) φ z := fun σ Hv H w Q k =>
  ha σ Hv H w _ fun v Hv1 H1 g1 r1 => hb σ Hv1 H1 (w.grow g1) _ fun u Hv2 H2 g2 r2 => o Hv2 H2 v u g2.vis (τ.mono g2.v r1) r2 Q fun u' Hv3 H3 g3 r3 => k _ _ _ ((g1.trans g2).trans g3) r3
theorem ov_I0 {g : Int → Int → V} {i j : Int} (h : ∀ H, φ.rep H (g i j) z) : OpV (rI0 g) tInt tInt φ i j z := fun Hv H v w s e1 e2 Q k => ⟨i, j, e1, e2, k _ _ _ (Grow.refl s) (h _)⟩
theorem ov_I {C : Int → Int → Prop} {g : Int → Int → V} {i j : Int} (c : C i j) (h : ∀ H, φ.rep H (g i j) z) : OpV (rI C g) tInt tInt φ i j z := fun Hv H v w s e1 e2 Q k => ⟨i, j, e1, e2, c, k _ _ _ (Grow.refl s) (h _)⟩
theorem ov_add {i j : Int} : OpV (rI0 fun i j => .int (i + j)) tInt tInt tInt i j (i + j) := ov_I0 fun _ => rfl
theorem ov_sub {i j : Int} : OpV (rI0 fun i j => .int (i - j)) tInt tInt tInt i j (i - j) := ov_I0 fun _ => rfl
theorem ov_and {i j : Int} : OpV (rI0 fun i j => .int (Builtin.bitAnd i j)) tInt tInt tInt i j (Builtin.bitAnd i j) := ov_I0 fun _ => rfl
theorem ov_or {i j : Int} : OpV (rI0 fun i j => .int (Builtin.bitOr i j)) tInt tInt tInt i j (Builtin.bitOr i j) := ov_I0 fun _ => rfl
theorem ov_xor {i j : Int} : OpV (rI0 fun i j => .int (Builtin.bitXor i j)) tInt tInt tInt i j (Builtin.bitXor i j) := ov_I0 fun _ => rfl
theorem ov_lt {i j : Int} : OpV (rI0 fun i j => .bl (decide (i < j))) tInt tInt tBool i j (decide (i < j)) := ov_I0 fun _ => rfl
theorem ov_le {i j : Int} : OpV (rI0 fun i j => .bl (decide (i ≤ j))) tInt tInt tBool i j (decide (i ≤ j)) := ov_I0 fun _ => rfl
theorem ov_gt {i j : Int} : OpV (rI0 fun i j => .bl (decide (j < i))) tInt tInt tBool i j (decide (j < i)) := ov_I0 fun _ => rfl
theorem ov_ge {i j : Int} : OpV (rI0 fun i j => .bl (decide (j ≤ i))) tInt tInt tBool i j (decide (j ≤ i)) := ov_I0 fun _ => rfl
theorem ov_modP {i j : Int} (c : 0 < j) : OpV (rI (fun _ j => j ≠ 0) fun i j => .int (i.fmod j)) tInt tInt tInt i j (i % j) := ov_I (Int.ne_of_gt c) fun _ => congrArg V.int (Int.fmod_eq_emod_of_nonneg i (Int.le_of_lt c))
theorem ov_shr {i j : Int} (c : 0 ≤ j) : OpV (rI (fun _ j => 0 ≤ j) fun i j => .int (i / 2 ^ j.toNat)) tInt tInt tInt i j (i / 2 ^ j.toNat) := ov_I c fun _ => rfl
theorem ov_eqI {i j : Int} : OpV rEq tInt tInt tBool i j (decide (i = j)) := fun Hv H v w s e1 e2 Q k => by
  cases e1; cases e2
  exact ⟨rfl, k _ _ _ (Grow.refl s) (congrArg V.bl (by by_cases h : i = j <;> simp [h]))⟩
theorem ov_neI {i j : Int} : OpV rNe tInt tInt tBool i j (!decide (i = j)) := fun Hv H v w s e1 e2 Q k => by
  cases e1; cases e2
  exact ⟨rfl, k _ _ _ (Grow.refl s) (congrArg V.bl (by by_cases h : i = j <;> simp [h]))⟩
theorem ov_neS {i j : Str} : OpV rNe tStr tStr tBool i j (!decide (i = j)) := fun Hv H v w s e1 e2 Q k => by
  cases e1; cases e2
  exact ⟨rfl, k _ _ _ (Grow.refl s) (congrArg V.bl (by by_cases h : i = j <;> simp [h]))⟩
theorem sm_isN {t : TE} {o : Option α} (h : Sm B Γ t (tOpt τ) o) : Sm B Γ (tOp (fun x y H Q => y = .non ∧ Q (.bl (decide (x = .non))) H) t (tC .non)) tBool o.isNone := fun σ Hv H w Q k =>
  h σ Hv H w _ fun v Hv1 H1 g1 r1 => ⟨rfl, k _ _ _ g1 (congrArg V.bl (by
    cases o with
    | none => exact decide_eq_true r1
    | some y => exact decide_eq_false r1.1))⟩
theorem sm_chain {r r' : R2} {ta tb tc : TE} {b b' : Bool} {w : δ} {ψ : Ty δ} (ha : Sm B Γ ta τ x) (hb : Sm B Γ tb υ y) (o : OpV r τ υ tBool x y b) (hc : b = true → Sm B Γ tc ψ w) (o' : b = true → OpV r' υ ψ tBool y w b') : Sm B Γ (tChain r r' ta tb tc) tBool (b && b') := fun σ Hv H wd Q k =>
  ha σ Hv H wd _ fun v Hv1 H1 g1 r1 => hb σ Hv1 H1 (wd.grow g1) _ fun u Hv2 H2 g2 r2 => o Hv2 H2 v u g2.vis (τ.mono g2.v r1) r2 _ fun u' Hv3 H3 g3 r3 => by
    refine ⟨b, r3, ?_⟩
    cases b with
    | false => exact k _ _ _ ((g1.trans g2).trans g3) rfl
    | true => exact hc rfl σ Hv3 H3 (wd.grow ((g1.trans g2).trans g3)) _ fun q Hv4 H4 g4 r4 => o' rfl Hv4 H4 u q g4.vis (υ.mono (Same.trans g3.v g4.v) r2) r4 _ fun q' Hv5 H5 g5 r5 => k _ _ _ ((((g1.trans g2).trans g3).trans g4).trans g5) r5
theorem smt_tt {t : TE} {b : Bool} (h : Sm B Γ t tBool b) : SmT B Γ (tTest t) b := fun σ Hv H w Q k => h σ Hv H w _ fun v Hv1 H1 g1 r1 => ⟨b, r1, k _ _ g1⟩
theorem smt_b {t : TE} {b : Bool} (h : Sm B Γ t tBool b) : SmT B Γ (tB t) b := fun σ Hv H w Q k => h σ Hv H w _ fun v Hv1 H1 g1 r1 => ⟨b, r1, k _ _ g1⟩
theorem smt_or {t u : TT} {b c : Bool} (h : SmT B Γ t b) (h' : b = false → SmT B Γ u c) : SmT B Γ (tOr t u) (b || c) := fun σ Hv H w Q k => h σ Hv H w _ fun Hv1 H1 g1 => by
  cases b with
  | true => exact k _ _ g1
  | false => exact h' rfl σ Hv1 H1 (w.grow g1) _ fun Hv2 H2 g2 => k _ _ (g1.trans g2)
theorem smt_not {t : TT} {b : Bool} (h : SmT B Γ t b) : SmT B Γ (tNot t) (!b) := fun σ Hv H w Q k => h σ Hv H w _ fun Hv1 H1 g1 => k _ _ g1
theorem smt_yes : SmT B Γ tYes true := fun _ _ _ w _ k => k _ _ (Grow.refl w.vis)
theorem sm_andV {t u : TE} {b c : Bool} (h : Sm B Γ t tBool b) (h' : b = true → Sm B Γ u tBool c) : Sm B Γ (tAndV t u) tBool (b && c) := fun σ Hv H w Q k => h σ Hv H w _ fun v Hv1 H1 g1 r1 => by
  refine ⟨b, r1, ?_⟩
  cases b with
  | false => exact k _ _ _ g1 rfl
  | true => exact h' rfl σ Hv1 H1 (w.grow g1) _ fun v Hv2 H2 g2 r2 => k _ _ _ (g1.trans g2) r2
theorem sm_notV {t : TE} {b : Bool} (h : Sm B Γ t tBool b) : Sm B Γ (tNotV t) tBool (!b) := fun σ Hv H w Q k => h σ Hv H w _ fun v Hv1 H1 g1 r1 => ⟨b, r1, k _ _ _ g1 rfl⟩
variable {K : PySem.W.Frag}
theorem seq_lt {n : Nat} (h : n ≤ 1000) : n ≤ sizeLine := Nat.le_trans h (by decide)
theorem sm_ix {ta tb : TE} {xs : List α} {i : Int} (ha : SmL B Γ ta τ xs) (hb : Sm B Γ tb tInt i) (h0 : 0 ≤ i) (h : xs[i.toNat]? = some x) : Sm B Γ (tOp (rIxL K) ta tb) τ x := fun σ Hv H w Q k =>
  ha σ Hv H w _ fun a vs Hv1 H1 g1 e1 r1 => hb σ Hv1 H1 (w.grow g1) _ fun v Hv2 H2 g2 r2 => by
    obtain ⟨u, hu, ru⟩ := paired_get' (Paired.up g2.v r1) h
    cases r2
    refine ⟨a, vs, i, u, rfl, rfl, SqL.of (g2.s _ _ e1), ?_, k _ _ _ (g1.trans g2) ru⟩
    have := atI_nat hu
    rw [Int.toNat_of_nonneg h0] at this
    exact this
theorem sm_ixN {ta tb : TE} {xs : List α} {i : Int} (ha : SmL B Γ ta τ xs) (hb : Sm B Γ tb tInt i) (h0 : i < 0) (h1 : -(xs.length : Int) ≤ i) (h : xs[(i + xs.length).toNat]? = some x) : Sm B Γ (tOp (rIxL K) ta tb) τ x := fun σ Hv H w Q k =>
  ha σ Hv H w _ fun a vs Hv1 H1 g1 e1 r1 => hb σ Hv1 H1 (w.grow g1) _ fun v Hv2 H2 g2 r2 => by
    obtain ⟨u, hu, ru⟩ := paired_get' (Paired.up g2.v r1) h
    cases r2
    refine ⟨a, vs, i, u, rfl, rfl, SqL.of (g2.s _ _ e1), ?_, k _ _ _ (g1.trans g2) ru⟩
    unfold atI ixN
    rw [if_neg (by omega), paired_len r1, if_pos h1]
    exact hu
theorem sm_ixScr {ta tb : TE} {ns : List Int} {i : Int} (ha : Sm B Γ ta (tScr K) ns) (hb : Sm B Γ tb tInt i) (h0 : 0 ≤ i) (h : ns[i.toNat]? = some n) : Sm B Γ (tOp (rIxL K) ta tb) tInt n := fun σ Hv H w Q k =>
  ha σ Hv H w _ fun v Hv1 H1 g1 r1 => hb σ Hv1 H1 (w.grow g1) _ fun u Hv2 H2 g2 r2 => by
    obtain ⟨a, rfl, e⟩ := r1
    cases r2
    refine ⟨a, ns.map V.int, i, .int n, rfl, rfl, Same.seq (Same.trans g2.v g2.vis) e, ?_, k _ _ _ (g1.trans g2) rfl⟩
    have := atI_nat (xs := ns.map V.int) (j := i.toNat) (v := .int n) (by rw [List.getElem?_map, h]; rfl)
    rw [Int.toNat_of_nonneg h0] at this
    exact this
theorem sm_len {t : TE} {xs : List α} (h : SmL B Γ t τ xs) : Sm B Γ (tCB (fun xs H Q => ∃ p ys, xs = [.ref p] ∧ (SqL K H p ys ∨ SqT K H p ys) ∧ Q (.int ys.length) H) (tCons t tNil)) tInt (xs.length : Int) := fun σ Hv H w Q k =>
  h σ Hv H w _ fun a vs Hv1 H1 g1 e1 r1 => ⟨a, vs, rfl, .inl (SqL.of e1), k _ _ _ g1 (by rw [paired_len r1]; rfl)⟩
theorem sm_lenScr {t : TE} {ns : List Int} (h : Sm B Γ t (tScr K) ns) : Sm B Γ (tCB (fun xs H Q => ∃ p ys, xs = [.ref p] ∧ (SqL K H p ys ∨ SqT K H p ys) ∧ Q (.int ys.length) H) (tCons t tNil)) tInt (ns.length : Int) := fun σ Hv H w Q k =>
  h σ Hv H w _ fun v Hv1 H1 g1 ⟨a, e, r1⟩ => ⟨a, ns.map V.int, by rw [e], .inl (Same.seq g1.vis r1), k _ _ _ g1 (by rw [List.length_map]; rfl)⟩
inductive SmI (B : Bs) (Γ : Cxt) (τ : Ty α) : TA → List α → Prop
  | nil : SmI B Γ τ tNil []
  | cons {t : TE} {r : TA} {x : α} {xs : List α} : Sm B Γ t τ x → SmI B Γ τ r xs → SmI B Γ τ (tCons t r) (x :: xs)
theorem SmI.run {t : TA} {xs : List α} (h : SmI B Γ τ t xs) : ∀ (σ : L2.St) (Hv H : Hp), Wd B Γ σ Hv H → ∀ Q : List V → Hp → Prop, (∀ vs Hv' H', Grow Hv H Hv' H' → Paired (τ.rep Hv') vs xs → Q vs H') → t σ H Q := by
  induction h with
  | nil => exact fun σ Hv H w Q k => k _ _ _ (Grow.refl w.vis) .nil
  | cons ha hr ih => exact fun σ Hv H w Q k => ha σ Hv H w _ fun v Hv1 H1 g1 r1 => ih σ Hv1 H1 (w.grow g1) _ fun vs Hv2 H2 g2 r2 => k _ _ _ (g1.trans g2) (.cons (τ.mono g2.v r1) r2)
theorem smo_rep {t u : TE} {x : α} {n : Int} (h : SmL B Γ t τ [x]) (h' : Sm B Γ u tInt n) (hl : 0 ≤ n ∧ n ≤ 1000) : SmO B Γ (tOp rRep t u) τ (List.replicate n.toNat x) := fun σ Hv H w Q k =>
  h σ Hv H w _ fun a vs Hv1 H1 g1 e1 r1 => h' σ Hv1 H1 (w.grow g1) _ fun u Hv2 H2 g2 e2 => by
    cases e2
    cases r1 with
    | cons ra rn =>
      cases rn
      rename_i va
      refine ⟨a, n, [va], rfl, rfl, g2.s _ _ e1, by omega, by omega, ?_, fun p hp => ?_⟩
      · show 1 * n.toNat ≤ sizeLine
        rw [Nat.one_mul]
        exact seq_lt (by omega)
      · refine k p _ Hv2 _ ((g1.trans g2).trans (Grow.newO g2.vis hp)) (Same.free (g1.trans g2).s hp) upd_same (Same.free g2.vis hp) ?_
        have e : (List.replicate n.toNat [va]).flatten = List.replicate n.toNat va := by simp
        rw [e]
        exact paired_rep (τ.mono g2.v ra) _
end
end WM
set_option Elab.async false
set_option maxRecDepth 100000
set_option maxHeartbeats 4000000
namespace WM
open PySem PySem.Spec L2
def dels : List Nat → Cxt → Cxt
  | [], Γ => Γ
  | i :: is, Γ => del i (dels is Γ)
theorem getElem?_setN {σ : L2.St} {i j : Nat} {x : Option V} : (σ.set i x)[j]? = if i = j then (if j < σ.length then some x else none) else σ[j]? := by
  rw [List.getElem?_set]
  by_cases h : i = j
  · subst h; rfl
  · rw [if_neg h, if_neg h]
theorem Wd.wiped {B : Bs} {Γ : Cxt} {σ : L2.St} {Hv H : Hp} (w : Wd B Γ σ Hv H) : ∀ vs : List Nat, Wd B (dels vs Γ) (wipe σ vs) Hv H
  | [] => w
  | i :: vs => (w.wiped vs).forget i none
theorem wipe_get (σ : L2.St) : ∀ (vs : List Nat) (j : Nat), (wipe σ vs)[j]? = if j ∈ vs then (if j < σ.length then some none else none) else σ[j]?
  | [], j => by simp [wipe]
  | i :: vs, j => by
    unfold wipe
    rw [getElem?_setN, wipe_length, wipe_get σ vs j]
    by_cases h : i = j
    · subst h
      simp
    · rw [if_neg h]
      by_cases h' : j ∈ vs
      · simp [h']
      · have : ¬ j ∈ i :: vs := by simp [h', Ne.symm h]
        rw [if_neg h', if_neg this]
theorem wipe_eq {σ σ' : L2.St} {vs is : List Nat} (hl : σ'.length = σ.length) (h : ∀ j, j ∉ is → σ'[j]? = σ[j]?) (hi : ∀ i ∈ is, i ∈ vs) : wipe σ' vs = wipe σ vs := by
  apply List.ext_getElem?
  intro j
  rw [wipe_get, wipe_get, hl]
  by_cases hj : j ∈ vs
  · rw [if_pos hj, if_pos hj]
  · rw [if_neg hj, if_neg hj]
    exact h j fun z => hj (hi j z)
theorem wipe_wipe (σ : L2.St) (vs : List Nat) : wipe (wipe σ vs) vs = wipe σ vs := wipe_eq (is := vs) (wipe_length σ vs) (fun j hj => by rw [wipe_get, if_neg hj]) fun _ h => h
structure Tgt {α : Type} (B : Bs) (g : TG) (τ : Ty α) (up : α → Cxt → Cxt) (is : List Nat) : Prop where
  run : ∀ (Γ : Cxt) (σ : L2.St) (Hv H : Hp) (v : V) (x : α), Wd B Γ σ Hv H → τ.rep Hv v x → ∀ Q : L2.St → Hp → Prop, (∀ σ', Wd B (up x Γ) σ' Hv H → σ'.length = σ.length → (∀ j, j ∉ is → σ'[j]? = σ[j]?) → Q σ' H) → g v σ H Q
theorem tgt_name {α : Type} {B : Bs} {τ : Ty α} {i : Nat} (hi : i < B.n) : Tgt B (gName i) τ (fun x => put i (.fz τ x)) [i] :=
  ⟨fun Γ σ Hv H v x w r Q k => k _ (w.put i hi r) (List.length_set) fun j hj => by rw [List.getElem?_set_ne]; intro e; exact hj (by simp [e])⟩
theorem tgt_tup {α β : Type} {K : PySem.W.Frag} {B : Bs} {τ : Ty α} {υ : Ty β} {i j : Nat} (hi : i < B.n) (hj : j < B.n) : Tgt B (gTup K 2 (gCons (gName i) (gCons (gName j) gNil))) (tTup2 τ υ) (fun x Γ => put j (.fz υ x.2) (put i (.fz τ x.1) Γ)) [i, j] :=
  ⟨fun Γ σ Hv H v x w ⟨a, v1, v2, e, h, r1, r2⟩ Q k => ⟨a, [v1, v2], e, SqT.of (w.vis _ _ h), rfl, v1, [v2], rfl, v2, [], rfl, rfl, k _ ((w.put i hi r1).put j hj r2) (by rw [List.length_set, List.length_set]) fun k hk => by
    rw [List.getElem?_set_ne, List.getElem?_set_ne]
    · intro e; exact hk (by simp [e])
    · intro e; exact hk (by simp [e])⟩⟩
def SmW {α : Type} (B : Bs) (Γ : Cxt) (fr : Bool) (wi : TI) (τ : Ty α) (ys : List α) : Prop := ∀ (σ : L2.St) (Hv H : Hp), Wd B Γ σ Hv H → ∀ R : It → Hp → Prop,
  (∀ (J : It) (Gd : Hp → Prop) (Y : Nat → Hp → V → Hp → Prop) (Hv' H' : Hp), Grow Hv H Hv' H' → Walk J ys.length Gd Y →
    (∀ Hv'' H'', Same Hv' Hv'' → Same Hv'' H'' → (fr = false → Same H' H'') → Gd H'') →
    (∀ i H1 v H2 Hv1, i < ys.length → Same Hv' Hv1 → Same Hv1 H1 → (fr = false → Same H' H1) → Y i H1 v H2 → ∃ Hv2 y, Grow Hv1 H1 Hv2 H2 ∧ ys[i]? = some y ∧ τ.rep Hv2 v y) → R J H') → wi σ H R
section
variable {B : Bs} {Γ : Cxt} {α β : Type} {τ : Ty α} {υ : Ty β} {K : PySem.W.Frag} {fr : Bool}
def rangeL (i j : Int) : List Int := (List.range (j - i).toNat).map fun (k : Nat) => i + (k : Int)
theorem rangeL_len {i j : Int} : (rangeL i j).length = (j - i).toNat := by simp [rangeL]
theorem rangeL_get {i j : Int} {k : Nat} (h : k < (j - i).toNat) : (rangeL i j)[k]? = some (i + k) := by simp [rangeL, h]
theorem rangeL_mem {i j x : Int} : x ∈ rangeL i j ↔ i ≤ x ∧ x < j := by
  unfold rangeL
  simp only [List.mem_map, List.mem_range]
  constructor
  · rintro ⟨k, h, rfl⟩
    omega
  · intro h
    exact ⟨(x - i).toNat, by omega, by omega⟩
theorem smw_range1 {t : TE} {j : Int} (h : Sm B Γ t tInt j) (hb : -(2 ^ 62) ≤ j ∧ j < 2 ^ 62) : SmW B Γ fr (iRng1 (tCons t tNil)) tInt (rangeL 0 j) := fun σ Hv H w R k =>
  h σ Hv H w _ fun v Hv1 H1 g1 r1 => by
    cases r1
    refine ⟨j, rfl, hb.1, hb.2, k _ _ _ Hv1 H1 g1 (by rw [rangeL_len, Int.sub_zero]; exact walk_range) (fun _ _ _ _ _ => trivial) fun m H1 v H2 Hv1 hm s1 s2 _ y => ?_⟩
    obtain ⟨rfl, rfl⟩ := y
    rw [rangeL_len] at hm
    exact ⟨Hv1, 0 + m, Grow.refl s2, rangeL_get hm, rfl⟩
def enumL (xs : List α) : List (Int × α) := xs.mapIdx fun i x => ((i : Int), x)
theorem enumL_len {xs : List α} : (enumL xs).length = xs.length := by simp [enumL]
theorem enumL_get {xs : List α} {i : Nat} : (enumL xs)[i]? = xs[i]?.map fun x => ((i : Int), x) := by simp [enumL]
theorem enumL_iff {xs : List α} {i : Nat} {p : Int × α} : (enumL xs)[i]? = some p ↔ p.1 = i ∧ xs[i]? = some p.2 := by
  rw [enumL_get]
  cases e : xs[i]? with
  | none => simp
  | some x =>
    obtain ⟨a, b⟩ := p
    simp only [Option.map_some, Option.some.injEq, Prod.mk.injEq]
    exact ⟨fun ⟨h1, h2⟩ => ⟨h1.symm, h2⟩, fun ⟨h1, h2⟩ => ⟨h1.symm, h2⟩⟩
theorem smw_enumF {t : TE} {xs : List α} (h : Sm B Γ t (tList τ) xs) : SmW B Γ fr (iEnum K (tCons t tNil)) (tTup2 tInt τ) (enumL xs) := fun σ Hv H w R k =>
  h σ Hv H w _ fun v Hv' H' g ⟨a, vs, ev, e, r⟩ => by
    refine ⟨a, vs, by rw [ev], SqL.of (g.vis _ _ e), k _ _ _ Hv' H' g (by rw [enumL_len, ← paired_len r]; exact walk_enum) (fun Hv'' H'' s1 s2 s3 => SqL.of (s2 _ _ (s1 _ _ e))) fun i H1 v H2 Hv1 hi s1 s2 _ y => ?_⟩
    obtain ⟨T, x, y, rfl, hT, rfl, e1, e2⟩ := y
    cases e1
    obtain ⟨z, e3, r3⟩ := paired_get r e2
    refine ⟨upd Hv1 T _, (i, z), Grow.new s2 hT, by rw [enumL_get, e3]; rfl, T, .int i, y, rfl, upd_same, rfl, ?_⟩
    exact τ.mono (Same.trans s1 (same_upd (Same.free s2 hT))) r3
theorem take_filter_map {ys : List α} {p : α → Bool} {f : α → β} {i : Nat} {y : α} (h : ys[i]? = some y) : ((ys.take (i + 1)).filter p).map f = ((ys.take i).filter p).map f ++ (bif p y then [f y] else []) := by
  obtain ⟨hi, rfl⟩ := List.getElem?_eq_some_iff.mp h
  rw [List.take_succ_eq_append_getElem hi, List.filter_append, List.map_append]
  congr 1
  cases e : p ys[i] <;> simp [e]
end
end WM
namespace MM
abbrev Exn := Nat × List Int
def guardO {β : Type} (p : Prop) [Decidable p] (k : Option β) : Option β := if p then k else none
def mapO {α β : Type} (f : α → Option β) : List α → Option (List β)
  | [] => some []
  | x :: xs => (f x).bind fun y => (mapO f xs).bind fun ys => some (y :: ys)
def lcO {α β : Type} (p : α → Option Bool) (f : α → Option β) : List α → Option (List β)
  | [] => some []
  | x :: xs => (p x).bind fun b => if b then (f x).bind fun y => (lcO p f xs).bind fun ys => some (y :: ys) else lcO p f xs
def andO (a : Bool) (b : Option Bool) : Option Bool := if a then b else some false
def orO (a : Bool) (b : Option Bool) : Option Bool := if a then some true else b
def letO {α β : Type} (v : α) (k : α → Option β) : Option β := k v
def ixO {α : Type} (xs : List α) (i : Int) : Option α := if 0 ≤ i then xs[i.toNat]? else if -(xs.length : Int) ≤ i then xs[(i + xs.length).toNat]? else none
def okO {ε α : Type} : Option (Except ε α) → Option α
  | some (.ok y) => some y
  | _ => none
abbrev MulOk (i j : Int) : Prop := (-18446744073709551616 < i ∧ i < 18446744073709551616) ∨ (-18446744073709551616 < j ∧ j < 18446744073709551616)
abbrev DivOk (j : Int) : Prop := 0 < j ∧ j < 1606938044258990275541962092341162602522202993782792835301376
abbrev PowOk (i j : Int) : Prop := 0 ≤ j ∧ j ≤ 1000 ∧ -18446744073709551616 < i ∧ i < 18446744073709551616
def ShlOk (i j : Int) : Prop := 0 ≤ j ∧ j ≤ 1000 ∧ -(2 ^ 1000) < i ∧ i < 2 ^ 1000
instance {i j : Int} : Decidable (ShlOk i j) := inferInstanceAs (Decidable (_ ∧ _ ∧ _ ∧ _))
abbrev RngOk (i : Int) : Prop := -4611686018427387904 ≤ i ∧ i < 4611686018427387904
def dget {κ β : Type} [DecidableEq κ] (d : List (κ × β)) (k : κ) : Option β := (d.find? fun p => decide (p.1 = k)).map (·.2)
def dput {κ β : Type} [DecidableEq κ] (d : List (κ × β)) (k : κ) (v : β) : List (κ × β) := if (d.any fun p => decide (p.1 = k)) = true then d.map (fun p => if p.1 = k then (p.1, v) else p) else d ++ [(k, v)]
def ddel {κ β : Type} [DecidableEq κ] (d : List (κ × β)) (k : κ) : List (κ × β) := d.filter fun p => decide (p.1 ≠ k)
inductive Fl (S C R T : Type) where
  | nx (s : S) | bk (c : C) | ct (c : C) | rt (r : R) | er (e : Exn) (t : T)
section
variable {S S' C C' R T T' α β : Type}
def thenO (m : Option (Fl S C R T)) (k : S → Option (Fl S' C R T)) : Option (Fl S' C R T) := m.bind fun
  | .nx s => k s
  | .bk c => some (.bk c)
  | .ct c => some (.ct c)
  | .rt r => some (.rt r)
  | .er e t => some (.er e t)
def forO (f : α → S → Option (Fl S S R T)) : List α → S → Option (Fl S C R T)
  | [], s => some (.nx s)
  | x :: xs, s => (f x s).bind fun
    | .nx s' => forO f xs s'
    | .ct s' => forO f xs s'
    | .bk s' => some (.nx s')
    | .rt r => some (.rt r)
    | .er e t => some (.er e t)
def whileO (c : S → Option Bool) (f : S → Option (Fl S S R T)) : Nat → S → Option (Fl S C R T)
  | 0, _ => none
  | n + 1, s => (c s).bind fun b => if b then (f s).bind fun
    | .nx s' => whileO c f n s'
    | .ct s' => whileO c f n s'
    | .bk s' => some (.nx s')
    | .rt r => some (.rt r)
    | .er e t => some (.er e t)
    else some (.nx s)
def callO (m : Option (Except Exn α)) (t : T) (k : α → Option (Fl S C R T)) : Option (Fl S C R T) := m.bind fun
  | .ok y => k y
  | .error e => some (.er e t)
def tryO (m : Option (Fl S C R T')) (h : Exn → T' → Option (Fl S C R T)) : Option (Fl S C R T) := m.bind fun
  | .nx s => some (.nx s)
  | .bk c => some (.bk c)
  | .ct c => some (.ct c)
  | .rt r => some (.rt r)
  | .er e t => h e t
def outV (m : Option (Fl Unit Empty R Unit)) : Option R := m.bind fun
  | .rt r => some r
  | _ => none
def outU (m : Option (Fl Unit Empty Unit Unit)) : Option Unit := m.bind fun
  | .rt _ => some ()
  | .nx _ => some ()
  | _ => none
def outX (m : Option (Fl Unit Empty R Unit)) : Option (Except Exn R) := m.bind fun
  | .rt r => some (.ok r)
  | .er e _ => some (.error e)
  | _ => none
def outXU (m : Option (Fl Unit Empty Unit Unit)) : Option (Except Exn Unit) := m.bind fun
  | .rt _ => some (.ok ())
  | .nx _ => some (.ok ())
  | .er e _ => some (.error e)
  | _ => none
theorem bindE {m : Option α} {k : α → Option β} {o : β} {P : Prop} (h : m.bind k = some o) (f : ∀ y, m = some y → k y = some o → P) : P := by
  cases e : m with
  | none => rw [e] at h; cases h
  | some y => exact f y e (by rw [e] at h; exact h)
theorem guardE {p : Prop} [Decidable p] {k : Option β} {o : β} {P : Prop} (h : guardO p k = some o) (f : p → k = some o → P) : P := by
  unfold guardO at h
  by_cases e : p
  · exact f e (by rw [if_pos e] at h; exact h)
  · rw [if_neg e] at h
    cases h
theorem ifT {b : Bool} {x y : Option α} {o : α} (h : b = true) (hm : (if b then x else y) = some o) : x = some o := by rw [h] at hm; simpa using hm
theorem ifF {b : Bool} {x y : Option α} {o : α} (h : b = false) (hm : (if b then x else y) = some o) : y = some o := by rw [h] at hm; simpa using hm
theorem letE {v : α} {k : α → Option β} {o : β} {P : Prop} (h : letO v k = some o) (f : ∀ x, v = x → k x = some o → P) : P := f v rfl h
theorem okE {ε : Type} {m : Option (Except ε α)} {y : α} (h : okO m = some y) : m = some (.ok y) := by
  cases m with
  | none => cases h
  | some r =>
    cases r with
    | ok z => cases h; rfl
    | error e => cases h
theorem callE {m : Option (Except Exn α)} {t : T} {k : α → Option (Fl S C R T)} {o : Fl S C R T} {P : Prop} (h : callO m t k = some o) (f : ∀ r, m = some r → (∀ y, r = .ok y → k y = some o) → (∀ e, r = .error e → o = .er e t) → P) : P := bindE h fun r e h => f r e (fun y q => by
  subst q
  exact h) fun e q => by
  subst q
  cases h
  rfl
theorem thenE {m : Option (Fl S C R T)} {k : S → Option (Fl S' C R T)} {o : Fl S' C R T} {P : Prop} (h : thenO m k = some o) (f : ∀ y, m = some y → P) : P := bindE h fun y e _ => f y e
theorem mapO_eq {f : α → Option β} {g : α → β} : ∀ {xs : List α}, (∀ x ∈ xs, f x = some (g x)) → mapO f xs = some (xs.map g)
  | [], _ => rfl
  | x :: xs, h => by
    simp only [mapO]
    rw [h x List.mem_cons_self, mapO_eq fun y m => h y (List.mem_cons_of_mem _ m)]
    rfl
end
end MM
set_option Elab.async false
set_option linter.all false
set_option maxRecDepth 100000
set_option maxHeartbeats 4000000
namespace WM
open PySem PySem.Spec L2 MM
section
variable {B : Bs} {Γ : Cxt} {α β γ : Type} {τ : Ty α} {υ : Ty β} {μ : OTy α} {ν : OTy β} {x : α} {y : β} {t : TE} {K : PySem.W.Frag}
def So (B : Bs) (Γ : Cxt) (t : TE) (μ : OTy α) (x : α) : Prop := ∀ (σ : L2.St) (Hv H : Hp), Wd B Γ σ Hv H → ∀ Q : VK, (∀ v Hv' H' h', Chg Hv H emp Hv' H' h' → μ.rep Hv' h' v x → Q v H') → t σ H Q
theorem So.of (h : Sm B Γ t τ x) : So B Γ t (oF τ) x := fun σ Hv H w Q k => h σ Hv H w Q fun v Hv' H' g r => k v Hv' H' emp g.chg ⟨rfl, r⟩
theorem Grow.chgN {Hv H Hv' H' : Hp} {l : Addr} {o : HO} (g : Grow Hv H Hv' H') (h0 : H l = none) (h1 : H' l = some o) (h2 : Hv' l = none) : Chg Hv H emp Hv' H' (upd emp l o) := by
  refine ⟨fun b o _ e => g.s _ _ e, fun b n => Same.some_ne g.s n, g.v, g.vis, fun b _ n z => g.nw b n z, fun b p e => ?_, fun b n => ?_, fun b n => ?_⟩
  · by_cases hb : b = l
    · subst hb
      rw [upd_same] at e
      rw [← e]
      exact h1
    · rw [upd_ne hb] at e
      cases e
  · rcases upd_ne_none n with hb | z
    · rw [hb]
      exact h2
    · exact absurd rfl z
  · rcases upd_ne_none n with hb | z
    · rw [hb]
      exact .inr h0
    · exact absurd rfl z
theorem So.ofO {xs : List α} (h : SmO B Γ t τ xs) : So B Γ t (oL (oF τ)) xs := fun σ Hv H w Q k => h σ Hv H w Q fun l vs Hv' H' g h0 h1 h2 r =>
  k _ Hv' H' (upd emp l (.lst vs)) (g.chgN h0 h1 h2) ⟨l, vs, emp, rfl, OAll.ofF r, rfl, rfl⟩
theorem Chg.freeze {Hv H h Hv' H' h' g : Hp} (c : Chg Hv H h Hv' H' (uni h' g)) (d : Disj h' g) : Chg Hv H h (uni Hv' g) H' h' := by
  have dg : Disj g Hv' := c.hid.r
  refine ⟨c.s, c.a, Same.trans c.v same_uniL, same_uni c.vis (fun b o e => c.sub b o (same_uniR d _ _ e)), fun b e n z => ?_, fun b o e => c.sub b o (uni_l e), Disj.uniR c.hid.l d, fun b n => c.new b fun z => n (uni_none.mp z).1⟩
  rw [uni_r (c.nw b e n z)]
  cases q : g b with
  | none => rfl
  | some o =>
    rcases c.new b (fun z => by rw [(uni_none.mp z).2] at q; cases q) with y | y
    · exact absurd e y
    · exact absurd y n
theorem Chg.freeze0 {Hv H h Hv' H' g : Hp} (c : Chg Hv H h Hv' H' g) : Chg Hv H h (uni Hv' g) H' emp := Chg.freeze (h' := emp) c Disj.empL
theorem Sm.ofS (h : So B Γ t μ x) (f : Frz μ τ) : Sm B Γ t τ x := fun σ Hv H w Q k => h σ Hv H w Q fun v Hv' H' h' c r => k v (uni Hv' h') H' c.freeze0.grow (f.run r c.hid)
def G (B : Bs) (t : TS) (Γ : Cxt) (D : Ends) : Prop := ∀ (σ : L2.St) (Hv H : Hp), Wd B Γ σ Hv H → t D σ H
structure Le (B0 B : Bs) : Prop where
  h0 : B.H0 = B0.H0
  ow : B.own = B0.own
  n : B.n = B0.n
  v0 : Same B0.Hv0 B.Hv0
  nw : ∀ b, ¬ B0.own b → B0.H0 b ≠ none → B0.Hv0 b = none → B.Hv0 b = none
theorem Le.refl (B : Bs) : Le B B := ⟨rfl, rfl, rfl, Same.refl _, fun _ _ _ h => h⟩
theorem Le.trans {A B C : Bs} (a : Le A B) (b : Le B C) : Le A C :=
  ⟨b.h0.trans a.h0, b.ow.trans a.ow, b.n.trans a.n, Same.trans a.v0 b.v0, fun x h1 h2 h3 => b.nw x (by rw [a.ow]; exact h1) (by rw [a.h0]; exact h2) (a.nw x h1 h2 h3)⟩
end
section
variable {B B0 B1 : Bs} {Γ : Cxt} {α β γ : Type} {τ : Ty α} {υ : Ty β} {μ : OTy α} {ν : OTy β} {x : α} {y : β} {t : TE} {K : PySem.W.Frag} {D : Ends} {σ : L2.St} {Hv H : Hp} {i : Nat} {u : TS}
theorem Wd.down (w : Wd B1 Γ σ Hv H) (l : Le B B1) : Wd B Γ σ Hv H where
  len := w.len.trans l.n
  vis := w.vis
  s0 := fun b o n e => w.s0 b o (by rw [l.ow]; exact n) (by rw [l.h0]; exact e)
  a0 := fun b n => w.a0 b (by rw [l.h0]; exact n)
  v0 := Same.trans l.v0 w.v0
  nw := fun b n h z => w.nw b (by rw [l.ow]; exact n) (by rw [l.h0]; exact h) (l.nw b n h z)
  ow := by
    obtain ⟨F, o⟩ := w.ow
    exact ⟨F, o.ent, o.sub, o.hid, fun i e b m oo n => by have := o.new i e b m oo n; rw [l.h0, l.ow] at this; exact this, o.dis⟩
theorem Wd.rise (w : Wd B Γ σ Hv H) : Le B { B with Hv0 := Hv } ∧ Wd { B with Hv0 := Hv } Γ σ Hv H :=
  ⟨⟨rfl, rfl, rfl, w.v0, w.nw⟩, ⟨w.len, w.vis, w.s0, w.a0, Same.refl _, fun _ _ _ h => h, by
    obtain ⟨F, o⟩ := w.ow
    exact ⟨F, o.ent, o.sub, o.hid, o.new, o.dis⟩⟩⟩
theorem g_assoc {s r u : TS} (h : G B (tSeq s (tSeq r u)) Γ D) : G B (tSeq (tSeq s r) u) Γ D := h
theorem g_next (h : G B u Γ D) : G B (tSeq tNext u) Γ D := h
theorem g_asg (hi : i < B.n) (he : Sm B Γ t τ x) (h : G B u (put i (.fz τ x) Γ) D) : G B (tSeq (tAsg t (gName i)) u) Γ D := fun σ Hv H w =>
  he σ Hv H w _ fun v Hv1 H1 g1 r1 => h _ Hv1 H1 ((w.grow g1).put i hi r1)
theorem g_asgO (hi : i < B.n) (he : So B Γ t μ x) (h : G B u (put i (.ow none μ x) Γ) D) : G B (tSeq (tAsg t (gName i)) u) Γ D := fun σ Hv H w =>
  he σ Hv H w _ fun v Hv1 H1 h1 c r => h _ Hv1 H1 (w.putO i hi c r)
theorem g_asgT {j : Nat} {p : α × β} (hi : i < B.n) (hj : j < B.n) (he : Sm B Γ t (tTup2 τ υ) p) (h : G B u (put j (.fz υ p.2) (put i (.fz τ p.1) Γ)) D) :
    G B (tSeq (tAsg t (gTup K 2 (gCons (gName i) (gCons (gName j) gNil)))) u) Γ D := fun σ Hv H w =>
  he σ Hv H w _ fun v Hv1 H1 g1 r1 => (tgt_tup (τ := τ) (υ := υ) hi hj).run _ _ _ _ _ _ (w.grow g1) r1 _ fun σ' w' _ _ => h _ _ _ w'
theorem g_if {c : TT} {t e u : TS} {b : Bool} (hc : SmT B Γ c b) (h1 : b = true → G B (tSeq t u) Γ D) (h2 : b = false → G B (tSeq e u) Γ D) : G B (tSeq (tIfS c t e) u) Γ D := fun σ Hv H w =>
  hc σ Hv H w _ fun Hv1 H1 g1 => by
    cases b with
    | true => exact iteT (h1 rfl σ Hv1 H1 (w.grow g1))
    | false => exact iteF (h2 rfl σ Hv1 H1 (w.grow g1))
theorem sm_eq {x' : α} (e : x = x') (h : Sm B Γ t τ x) : Sm B Γ t τ x' := e ▸ h
def Pth (B : Bs) (Γ : Cxt) (t : TE) (i : Nat) (k : Option Addr) (μ : OTy α) (x : α) (ν : OTy β) (y : β) (st : β → α) : Prop :=
  get i Γ = some (.ow k μ x) ∧ ∀ (σ : L2.St) (Hv H h : Hp) (v : V), Wd B Γ σ Hv H → Holds σ i v k → μ.rep Hv h v x → Same h H → ∃ v1 h1 h2, h = uni h1 h2 ∧ Disj h1 h2 ∧ ν.rep Hv h1 v1 y ∧
    (∀ Hv' h1' y', Same Hv Hv' → ν.rep Hv' h1' v1 y' → Disj h1' h2 → μ.rep Hv' (uni h1' h2) v (st y')) ∧ ∀ Hv' H', Grow Hv H Hv' H' → ∀ Q : VK, (∀ Hv2 H2, Grow Hv' H' Hv2 H2 → Q v1 H2) → t σ H' Q
theorem pth_var (m : get i Γ = some (.ow none μ x)) : Pth B Γ (tVar i) i none μ x μ x id := ⟨m, fun σ Hv H h v w hv r s => ⟨v, h, emp, uni_emp.symm, Disj.empR, r, fun Hv' h1' y' _ r' _ => by rw [uni_emp]; exact r', fun Hv' H' g Q k => ⟨v, hv, k _ _ (Grow.refl g.vis)⟩⟩⟩
theorem Wd.part {k : Option Addr} {st : β → α} (p : Pth B Γ t i k μ x ν y st) (w : Wd B Γ σ Hv H) : ∃ v1 h1, ν.rep Hv h1 v1 y ∧ Same h1 H ∧ Disj h1 Hv ∧ (∀ Hv' H', Grow Hv H Hv' H' → ∀ Q : VK, (∀ Hv2 H2, Grow Hv' H' Hv2 H2 → Q v1 H2) → t σ H' Q) ∧
    ∀ (y' : β) (Hv' H' h1' : Hp), Chg Hv H h1 Hv' H' h1' → ν.rep Hv' h1' v1 y' → Wd B (WM.put i (.ow k μ (st y')) Γ) σ Hv' H' := by
  obtain ⟨v, h, hv, r, s, d, up⟩ := w.open (get_mem p.1)
  obtain ⟨v1, h1, h2, e, dd, r1, up1, run⟩ := p.2 σ Hv H h v w hv r s
  subst e
  refine ⟨v1, h1, r1, fun b o e => s _ _ (uni_l e), d.l, run, fun y' Hv' H' h1' c r' => ?_⟩
  have s2 : Same h2 H := fun b o e => s _ _ (same_uniR dd _ _ e)
  obtain ⟨f1, f2, f3⟩ := c.frame s2 d.r dd.symm
  refine up μ _ Hv' H' (uni h1' h2) ?_ (up1 Hv' h1' y' c.v r' f3.symm)
  refine ⟨fun b o e q => c.s b o (uni_none.mp e).1 q, c.a, c.v, c.vis, fun b e n z => c.nw b (uni_none.mp e).1 n z, same_uni c.sub f1, Disj.uniL c.hid f2, fun b n => ?_⟩
  rcases uni_ne n with z | z
  · rcases c.new b z with q | q
    · exact .inl fun z => q (uni_none.mp z).1
    · exact .inr q
  · exact .inl fun q => z (uni_none.mp q).2
theorem Chg.lst {Hv0 H0 g Hv1 H1 ge : Hp} {a : Addr} {oo ow : HO} {g' : Hp} (n : g a = none) (s : Same (upd g a oo) H0) (d : Disj (upd g a oo) Hv0) (c : Chg Hv0 H0 emp Hv1 H1 ge) (hg : ∀ b o, g' b = some o → g b = some o ∨ ge b = some o) (n' : g' a = none) :
    Chg Hv0 H0 (upd g a oo) Hv1 (upd H1 a ow) (upd g' a ow) := by
  have na : Hv1 a = none := c.nw a rfl (by rw [s a _ upd_same]; exact fun z => nomatch z) (d a (by rw [upd_same]; exact fun z => nomatch z))
  have gs : Same g H0 := fun b o e => s _ _ (by rw [upd_ne (ne_of_none e n)]; exact e)
  have gd : Disj g Hv0 := fun b nb => d b (by
    by_cases hb : b = a
    · subst hb
      exact absurd n nb
    · rw [upd_ne hb]
      exact nb)
  have e1 : ∀ b o, g' b = some o → H1 b = some o ∧ Hv1 b = none ∧ (g b ≠ none ∨ H0 b = none) := fun b o e => by
    rcases hg b o e with q | q
    · exact ⟨c.s _ _ rfl (gs _ _ q), c.nw b rfl (by rw [gs _ _ q]; exact fun z => nomatch z) (gd b (ne_none_of q)), .inl (ne_none_of q)⟩
    · exact ⟨c.sub _ _ q, c.hid b (ne_none_of q), (c.new b (ne_none_of q)).imp (fun z => absurd rfl z) id⟩
  refine ⟨fun b o e q => ?_, fun b nb => ?_, c.v, fun b o e => ?_, fun b e nb z => ?_, fun b o e => ?_, fun b nb => ?_, fun b nb => ?_⟩
  · have hb : b ≠ a := fun z => by
      subst z
      rw [upd_same] at e
      cases e
    rw [upd_ne hb]
    exact c.s _ _ rfl q
  · by_cases hb : b = a
    · rw [hb, upd_same]
      exact fun z => nomatch z
    · rw [upd_ne hb]
      exact c.a b nb
  · rw [upd_ne (ne_of_none e na)]
    exact c.vis _ _ e
  · exact c.nw b rfl nb z
  · by_cases hb : b = a
    · rw [hb, upd_same] at e ⊢
      exact e
    · rw [upd_ne hb] at e ⊢
      exact (e1 b o e).1
  · rcases upd_ne_none nb with hb | z
    · rw [hb]
      exact na
    · cases q : g' b with
      | none => exact absurd q z
      | some o => exact (e1 b o q).2.1
  · rcases upd_ne_none nb with hb | z
    · refine .inl ?_
      rw [hb, upd_same]
      exact fun z => nomatch z
    · cases q : g' b with
      | none => exact absurd q z
      | some o =>
        rcases (e1 b o q).2.2 with y | y
        · refine .inl ?_
          by_cases hb : b = a
          · rw [hb, upd_same]
            exact fun z => nomatch z
          · rw [upd_ne hb]
            exact y
        · exact .inr y
end
end WM
set_option Elab.async false
set_option linter.all false
set_option maxRecDepth 100000
set_option maxHeartbeats 4000000
namespace WM
open PySem PySem.Spec L2 MM
section
variable {B B0 B1 : Bs} {Γ : Cxt} {α β γ δ : Type} {τ : Ty α} {υ : Ty β} {μ : OTy α} {ν : OTy β} {x : α} {y : β} {t te tp : TE} {K : PySem.W.Frag} {D : Ends} {σ : L2.St} {Hv H : Hp} {i : Nat} {u : TS} {k : Option Addr}
theorem Chg.par {h Hv1 H1 h1 Hv2 H2 g : Hp} (c1 : Chg Hv H h Hv1 H1 h1) (c2 : Chg Hv1 H1 emp Hv2 H2 g) : Chg Hv H h Hv2 H2 (uni h1 g) ∧ Disj h1 g := by
  obtain ⟨f1, f2, f3⟩ := c2.frame c1.sub c1.hid Disj.empR
  have key : ∀ b, h b = none → H b ≠ none → H1 b ≠ none := fun b _ n => c1.a b n
  refine ⟨⟨fun b o e q => c2.s _ _ rfl (c1.s _ _ e q), fun b n => c2.a b (c1.a b n), Same.trans c1.v c2.v, c2.vis, fun b e n z => c2.nw b rfl (c1.a b n) (c1.nw b e n z), same_uni f1 c2.sub, Disj.uniL f2 c2.hid, fun b n => ?_⟩, f3⟩
  rcases uni_ne n with z | z
  · exact c1.new b z
  · rcases c2.new b z with q | q
    · exact absurd rfl q
    · refine .inr ?_
      cases e : H b with
      | none => rfl
      | some o => exact absurd q (c1.a b (ne_none_of e))
theorem Chg.newL {h Hv1 H1 g : Hp} {p : Addr} {o : HO} (c : Chg Hv H h Hv1 H1 g) (hp : H1 p = none) : Chg Hv H h Hv1 (upd H1 p o) (upd g p o) ∧ g p = none := by
  have gp : g p = none := by
    cases e : g p with
    | none => rfl
    | some q =>
      rw [c.sub _ _ e] at hp
      cases hp
  refine ⟨⟨fun b q e z => by rw [upd_ne (ne_of_none (c.s b q e z) hp)]; exact c.s b q e z, fun b n => ?_, c.v, same_updR c.vis (Same.free c.vis hp), c.nw, same_upd2 c.sub, fun b n => ?_, fun b n => ?_⟩, gp⟩
  · by_cases hb : b = p
    · rw [hb, upd_same]
      exact fun z => nomatch z
    · rw [upd_ne hb]
      exact c.a b n
  · rcases upd_ne_none n with hb | z
    · rw [hb]
      exact Same.free c.vis hp
    · exact c.hid b z
  · rcases upd_ne_none n with hb | z
    · refine .inr ?_
      rw [hb]
      cases e : H p with
      | none => rfl
      | some q => exact absurd hp (c.a p (ne_none_of e))
    · exact c.new b z
inductive SoI (B : Bs) (Γ : Cxt) (ν : OTy β) : TA → List β → Prop
  | nil : SoI B Γ ν tNil []
  | cons {t : TE} {tr : TA} {y : β} {ys : List β} : So B Γ t ν y → SoI B Γ ν tr ys → SoI B Γ ν (tCons t tr) (y :: ys)
theorem SoI.run {tr : TA} {ys : List β} (h : SoI B Γ ν tr ys) : ∀ (σ : L2.St) (Hv H : Hp), Wd B Γ σ Hv H → ∀ Q : List V → Hp → Prop, (∀ vs Hv' H' g, Chg Hv H emp Hv' H' g → OAll ν Hv' g vs ys → Q vs H') → tr σ H Q := by
  induction h with
  | nil => exact fun σ Hv H w Q q => q _ _ _ emp (Grow.refl w.vis).chg .nil
  | cons he _ ih =>
    exact fun σ Hv H w Q q => he σ Hv H w _ fun v Hv1 H1 h1 c1 r1 => ih σ Hv1 H1 (w.grow c1.grow) _ fun vs Hv2 H2 g c2 r2 => by
      obtain ⟨c, d⟩ := c1.par c2
      exact q _ _ _ _ c (.cons (ν.mono c2.v r1) r2 d)
theorem so_lc {wi : TI} {g : TG} {tt : TT} {te : TE} {vs is : List Nat} {up : α → Cxt → Cxt} {ys : List α} {p : α → Bool} {f : α → β} (hs : SmW B Γ false wi τ ys) (hg : Tgt B g τ up is) (hi : ∀ i ∈ is, i ∈ vs) (hl : ys.length ≤ 1000)
    (ht : ∀ x ∈ ys, SmT B (up x (dels vs Γ)) tt (p x)) (he : ∀ x ∈ ys, p x = true → So B (up x (dels vs Γ)) te ν (f x)) : So B Γ (tLc wi g tt te vs) (oL ν) ((ys.filter p).map f) := fun σ Hv H w Q k =>
  hs σ Hv H w _ fun J Gd Y Hv1 H1 g1 wk hG hY => fun D hD => by
    have w1 := w.grow g1
    refine lc_it wk (fun i H' => ∃ Hv' acc o, Chg Hv1 H1 emp Hv' H' (upd o D (.lst acc)) ∧ o D = none ∧ OAll ν Hv' o acc (((ys.take i).filter p).map f)) ?_ ?_ ?_ ?_
    · exact ⟨Hv1, [], emp, ((Grow.refl g1.vis).chg.newL hD).1, rfl, .nil⟩
    · rintro i H' _ ⟨Hv', acc, o, c2, _⟩
      exact hG Hv' H' c2.v c2.vis fun _ => c2.grow.s
    · rintro i x H' H'' hlt ⟨Hv', acc, o, c2, hoD, ha⟩ y
      have g2 := c2.grow
      obtain ⟨Hv2, z, g3, ez, rz⟩ := hY i H' x H'' Hv' hlt g2.v g2.vis (fun _ => g2.s) y
      have mz : z ∈ ys := List.mem_of_getElem? ez
      have w2 := ((w1.grow g2).grow g3).wiped vs
      refine hg.run _ _ Hv2 H'' x z w2 rz _ fun σ' w3 hl' hj => ?_
      refine ⟨by rw [wipe_eq (is := is) hl' hj hi, wipe_wipe], ?_⟩
      refine ht z mz σ' Hv2 H'' w3 _ fun Hv3 H3 g4 => ?_
      have gg := g3.trans g4
      have c3 := (c2.par gg.chg).1
      rw [uni_emp] at c3
      have hd3 : H3 D = some (.lst acc) := c3.sub _ _ upd_same
      cases ep : p z with
      | false =>
        refine iteF ⟨Hv3, acc, o, c3, hoD, ?_⟩
        rw [take_filter_map ez, ep]
        simpa using ha.up gg.v
      | true =>
        refine iteT ?_
        refine he z mz ep σ' Hv3 H3 (w3.grow g4) _ fun u Hv4 H4 h4 c4 ru => ?_
        have hd4 : H4 D = some (.lst acc) := c4.s _ _ rfl hd3
        have ha4 : OAll ν Hv4 o acc (((ys.take i).filter p).map f) := ha.up (Same.trans gg.v c4.v)
        obtain ⟨c5, d5⟩ := c3.par c4
        have n4 : h4 D = none := d5 D (by rw [upd_same]; exact fun z => nomatch z)
        have do4 : Disj o h4 := fun b nb => d5 b (by
          by_cases hb : b = D
          · rw [hb, upd_same]
            exact fun z => nomatch z
          · rw [upd_ne hb]
            exact nb)
        refine ⟨acc, hd4, ?_, Hv4, acc ++ [u], uni o h4, ?_, uni_none.mpr ⟨hoD, n4⟩, ?_⟩
        · rw [ha.len, List.length_map]
          refine Nat.lt_of_le_of_lt (Nat.le_trans (List.length_filter_le _ _) (by rw [List.length_take]; omega)) (show 1000 < sizeLine by decide)
        · have e6 : uni (upd o D (.lst acc)) h4 = upd (uni o h4) D (.lst acc) := upd_uni
          rw [e6] at c5
          have hD1 : H1 D = none := hD
          have v4 : Hv4 D = none := c5.hid D (by rw [upd_same]; exact fun z => nomatch z)
          refine ⟨fun b ob e q => ?_, fun b nb => ?_, c5.v, fun b ob e => ?_, c5.nw, fun b ob e => ?_, fun b nb => ?_, fun b nb => ?_⟩
          · rw [upd_ne (ne_of_none q hD1)]
            exact c5.s _ _ rfl q
          · by_cases hb : b = D
            · rw [hb, upd_same]
              exact fun z => nomatch z
            · rw [upd_ne hb]
              exact c5.a b nb
          · rw [upd_ne (ne_of_none e v4)]
            exact c5.vis _ _ e
          · by_cases hb : b = D
            · rw [hb, upd_same] at e ⊢
              exact e
            · rw [upd_ne hb] at e ⊢
              exact c5.sub b ob (by rw [upd_ne hb]; exact e)
          · refine c5.hid b ?_
            rcases upd_ne_none nb with hb | z
            · rw [hb, upd_same]
              exact fun z => nomatch z
            · by_cases hb : b = D
              · rw [hb, upd_same]
                exact fun z => nomatch z
              · rw [upd_ne hb]
                exact z
          · refine c5.new b ?_
            rcases upd_ne_none nb with hb | z
            · rw [hb, upd_same]
              exact fun z => nomatch z
            · by_cases hb : b = D
              · rw [hb, upd_same]
                exact fun z => nomatch z
              · rw [upd_ne hb]
                exact z
        · rw [take_filter_map ez, ep]
          exact ha4.app ru do4
    · rintro H' ⟨Hv', acc, o, c2, hoD, ha⟩
      rw [List.take_length] at ha
      have c := g1.chg.trans c2
      exact k _ Hv' H' _ c ⟨D, acc, o, rfl, ha, hoD, rfl⟩
theorem so_lcM [Inhabited β] {wi : TI} {g : TG} {tt : TT} {te : TE} {vs is : List Nat} {up : α → Cxt → Cxt} {ys : List α} {zs : List β} {p : α → Option Bool} {f : α → Option β} (hs : SmW B Γ false wi τ ys) (hg : Tgt B g τ up is) (hi : ∀ i ∈ is, i ∈ vs) (hl : ys.length ≤ 1000)
    (ht : ∀ x, x ∈ ys → ∀ b, p x = some b → SmT B (up x (dels vs Γ)) tt b) (he : ∀ x, x ∈ ys → ∀ y, f x = some y → So B (up x (dels vs Γ)) te ν y) (hm : lcO p f ys = some zs) : So B Γ (tLc wi g tt te vs) (oL ν) zs := by
  have key : ∀ {l : List α} {zs : List β}, lcO p f l = some zs → (∀ x ∈ l, p x = some ((p x).getD false)) ∧ (∀ x ∈ l, (p x).getD false = true → f x = some ((f x).getD default)) ∧ zs = (l.filter fun x => (p x).getD false).map fun x => (f x).getD default := by
    intro l
    induction l with
    | nil =>
      intro zs h
      cases h
      exact ⟨fun _ m => (nomatch m), fun _ m => (nomatch m), rfl⟩
    | cons a l ih =>
      intro zs h
      simp only [lcO] at h
      refine bindE h fun b hb h => ?_
      cases b with
      | false =>
        obtain ⟨h1, h2, h3⟩ := ih (by simpa using h)
        refine ⟨fun x m => ?_, fun x m => ?_, ?_⟩
        · rcases List.mem_cons.mp m with rfl | m
          · rw [hb]; rfl
          · exact h1 x m
        · rcases List.mem_cons.mp m with rfl | m
          · rw [hb]
            intro z
            cases z
          · exact h2 x m
        · rw [List.filter_cons_of_neg (by rw [hb]; simp)]
          exact h3
      | true =>
        simp only [if_true] at h
        refine bindE h fun y hy h => bindE h fun ys' hys h => ?_
        cases h
        obtain ⟨h1, h2, h3⟩ := ih hys
        refine ⟨fun x m => ?_, fun x m => ?_, ?_⟩
        · rcases List.mem_cons.mp m with rfl | m
          · rw [hb]; rfl
          · exact h1 x m
        · rcases List.mem_cons.mp m with rfl | m
          · rw [hy]
            intro _
            rfl
          · exact h2 x m
        · rw [List.filter_cons_of_pos (by rw [hb]; rfl), List.map_cons, hy]
          exact congrArg _ h3
  obtain ⟨h1, h2, h3⟩ := key hm
  rw [h3]
  exact so_lc (p := fun x => (p x).getD false) (f := fun x => (f x).getD default) hs hg hi hl (fun x m => ht x m _ (h1 x m)) fun x m e => he x m _ (h2 x m e)
theorem so_lc0M [Inhabited β] {wi : TI} {g : TG} {te : TE} {vs is : List Nat} {up : α → Cxt → Cxt} {ys : List α} {zs : List β} {f : α → Option β} (hs : SmW B Γ false wi τ ys) (hg : Tgt B g τ up is) (hi : ∀ i ∈ is, i ∈ vs) (hl : ys.length ≤ 1000)
    (he : ∀ x, x ∈ ys → ∀ y, f x = some y → So B (up x (dels vs Γ)) te ν y) (hm : mapO f ys = some zs) : So B Γ (tLc wi g tYes te vs) (oL ν) zs := by
  refine so_lcM (p := fun _ => some true) (f := f) hs hg hi hl (fun x m b e => by cases e; exact smt_yes) he ?_
  rw [← hm]
  clear hm hl hs he
  induction ys with
  | nil => rfl
  | cons a l ih =>
    simp only [lcO, mapO]
    show (some true).bind _ = _
    simp only [Option.bind_some, if_true]
    cases f a with
    | none => rfl
    | some y =>
      simp only [Option.bind_some]
      rw [ih]
theorem g_appendP {ys : List β} {st : List β → α} (p : Pth B Γ tp i k μ x (oL ν) ys st) (he : So B Γ te ν y) (hl : ys.length < 16000000) {z : α} (hz : st (ys ++ [y]) = z) (h : G B u (put i (.ow k μ z) Γ) D) : G B (tSeq (tDrop (tBM K "list" rAppend tp (tCons te tNil))) u) Γ D := fun σ Hv H w => by
  subst hz
  obtain ⟨v1, h1, ⟨l, vs, g, ev, a, n, q⟩, s, d, run, up⟩ := Wd.part p w
  subst ev q
  refine run Hv H (Grow.refl w.vis) _ fun Hv1 H1 g1 => ?_
  have hl1 := g1.s _ _ (s _ _ upd_same)
  refine ⟨.inl ⟨rfl, vs, SqL.of hl1⟩, he σ Hv1 H1 (w.grow g1) _ fun v Hv2 H2 ge c r => ?_⟩
  refine ⟨l, vs, v, rfl, rfl, c.s _ _ rfl hl1, by rw [a.len]; exact Nat.lt_of_lt_of_le hl (by decide), ?_⟩
  have cc := g1.chg.trans c
  have dg : Disj g ge := fun b nb => by
    cases e : ge b with
    | none => rfl
    | some o =>
      rcases cc.new b (ne_none_of e) with z | z
      · exact absurd rfl z
      · exact absurd z (Same.some_ne s (by
          by_cases hb : b = l
          · rw [hb, upd_same]
            exact fun z => nomatch z
          · rw [upd_ne hb]
            exact nb))
  have nl : ge l = none := by
    cases e : ge l with
    | none => rfl
    | some o =>
      rcases cc.new l (ne_none_of e) with z | z
      · exact absurd rfl z
      · rw [s _ _ upd_same] at z
        cases z
  refine h σ _ _ (up (ys ++ [y]) Hv2 _ _ (Chg.lst (g' := uni g ge) n s d cc (fun b o e => (uni_some e).imp id And.right) (uni_none.mpr ⟨n, nl⟩)) ⟨l, vs ++ [v], _, rfl, (a.up cc.v).app r dg, uni_none.mpr ⟨n, nl⟩, rfl⟩)
structure Sc (τ : Ty α) : Prop where
  run : ∀ {H H' : Hp} {v : V} {x : α}, τ.rep H v x → τ.rep H' v x
structure Ind (μ : OTy α) : Prop where
  run : ∀ {Hv Hv' h : Hp} {v : V} {x : α}, μ.rep Hv h v x → μ.rep Hv' h v x
end
end WM
set_option Elab.async false
set_option linter.all false
set_option maxRecDepth 100000
set_option maxHeartbeats 4000000
namespace WX
open PySem PySem.Spec PyProof.Rows L2
def ExV (cls : Value) (d : Option Addr) (a : Addr) : HO := .ext fun h => ∃ (oe : Obj) (vs : Array Value), h.get? a = some oe ∧ Zc cls d oe ∧ oe.data = .fields vs
theorem exV_ok {P : Program} {w : World} {H : Hp} {h : Heap} {a : Addr} {cls : Value} {d : Option Addr} {oe : Obj} {vs : Array Value} (e : h.get? a = some oe) (z : Zc cls d oe) (f : oe.data = .fields vs) : ObjOk P w H h a (ExV cls d a) :=
  ⟨⟨oe, vs, e, z, f⟩, ⟨oe, e⟩, fun _ _ ⟨o, v, q, r⟩ k => ⟨o, v, k o q, r⟩⟩
theorem exV_at {P : Program} {w : World} {H : Hp} {h : Heap} {a : Addr} {cls : Value} {d : Option Addr} (hok : HOk P w H h) (e : H a = some (ExV cls d a)) : ∃ (oe : Obj) (vs : Array Value), h.get? a = some oe ∧ Zc cls d oe ∧ oe.data = .fields vs := by
  have x : ObjOk P w H h a (.ext fun h => ∃ (oe : Obj) (vs : Array Value), h.get? a = some oe ∧ Zc cls d oe ∧ oe.data = .fields vs) := hok a _ e
  exact x.1
section
variable {X : Cx} {pins : List (Addr × Obj)} {σ : L2.St} {H : Hp} {sI s s' : Shared} {B : Heap}
theorem landedV {a : Addr} {o : HO} (I : Inv X pins σ H sI) (nb : ∀ b o, sI.heap.get? b = some o → b ∉ frs X.stack → B.get? b = some o) (st : B.StaysIn s'.heap) (up : sI.heap.UpToSlots s'.heap) (os : s'.os = sI.os) (ag : AllBare s'.gens)
    (na : H a = none) (nB : B.get? a = none) (nF : a ∉ frs X.stack) (new : ObjOk X.prog X.w (upd H a o) s'.heap a o) : Inv X pins σ (upd H a o) s' := by
  have nf : ∀ b ∈ frs X.stack, ∀ o, sI.heap.get? b = some o → ∃ sl, s'.heap.get? b = some { o with slots := sl } := fun b hb o e => by
    obtain ⟨_, o', e', hd⟩ := I.stack.mem hb
    rw [e] at e'; cases e'
    exact up b o e hd
  have ne : ∀ b u, sI.heap.get? b = some u → b ≠ a := fun b u e q => by
    subst q
    have z := nb b u e nF
    rw [nB] at z; cases z
  have J := I.call (ch := []) (h' := s'.heap) (g' := s'.gens) (t' := s'.toks) (d' := s'.drawn) (H' := upd H a o)
    ⟨fun b o e _ hb _ => st b o (nb b o e hb), fun b o e _ hb _ => nf b hb o e, fun b u e n _ => by rw [upd_ne (ne b u e)]; exact n, fun b o e _ => by
      by_cases hb : b ∈ frs X.stack
      · obtain ⟨sl, q⟩ := nf b hb o e
        exact ⟨_, q⟩
      · exact ⟨o, st b o (nb b o e hb)⟩, fun b xs e => by rw [upd_ne (ne_of_none e na)]; exact e, fun b o xs e => by rw [upd_ne (ne_of_none e na)]; exact e, fun b ps e => ⟨#[], by rw [upd_ne (ne_of_none e na), e]; simp⟩⟩
    (fun b u e => by
      by_cases hb : b = a
      · subst hb
        rw [upd_same] at e
        cases e
        exact new
      · rw [upd_ne hb] at e
        exact ((I.inGround nb).kept st b u e).stay (fun c v _ q => q) (fun c q => by rw [upd_ne (ne_of_none q na)]; exact q) fun c xs q => by rw [upd_ne (ne_of_none q na)]; exact q) ag (fun _ z => nomatch z)
  obtain ⟨a1, a2, a3, a4, a5⟩ := s'
  have e5 : a5 = sI.os := os
  subst e5
  exact J
theorem suiteV (I : Inv X pins σ H s) {a : Addr} : Inv (X.suite a (X.pn ++ pins)) [] σ H s :=
  ⟨I.ok.suite _ _, I.os, I.bare, I.base, I.loc, I.cell, I.free, I.freeC, fun p hp => I.pin p (by rw [List.append_nil] at hp; exact hp), I.hok, I.len⟩
theorem unsuiteV {a : Addr} {pn' : List (Addr × Obj)} (I : Inv (X.suite a (X.pn ++ pins)) pn' σ H s) (ok : X.Ok) : Inv X pins σ H s :=
  ⟨ok, I.os, I.bare, I.base, I.loc, I.cell, I.free, I.freeC, fun p hp => I.pin p (List.mem_append_left _ hp), I.hok, I.len⟩
end
def wAsV (K : PySem.W.Frag) (c : Value) (i : Nat) (ts : Addr → List (Addr × Obj) → TS) (Wout : WX) (D : Ends) : WX := fun cls d σ H =>
  ∃ b, PySem.W.exmOne K cls c = some b ∧ (b = true → ∀ a pn, H a = none → ts a pn { nx := fun σ' H' => D.nx (σ'.set i none) H', rt := D.rt, bk := fun σ' H' => D.bk (σ'.set i none) H', ct := fun σ' H' => D.ct (σ'.set i none) H' } (σ.set i (some (.ref a))) (upd H a (ExV cls d a))) ∧
    (b = false → Wout cls d σ H)
def tTry (K : PySem.W.Frag) (c : Value) (i : Nat) (ts : Addr → List (Addr × Obj) → TS) (Wout : WX) (tb : WX → TS) : TS := fun D σ H => tb (wAsV K c i ts Wout D) D σ H
section
variable {X : Cx} {x n : Str} {c : Value} {i : Nat} {body suite : List Stmt} {b₀ : Stmt} {np pos pos' : Pos} {tb : WX → TS} {ts : Addr → List (Addr × Obj) → TS} {Wout : WX}
theorem ps_try_asV (hs : X.stack = X.env :: X.outer) (hf : X.env.frame = some X.env.locals) (hN : X.N.Nodup) (hi : X.N[i]? = some n) (hln : X.env.kindOf n = some .local) (hc : Names X x c) (tk : Takes X Wout)
    (hb : ∀ (W : WX) (pn : List (Addr × Obj)) (xe : Value → Shared → Prop), Takes (X.tr pn xe) W → PassesOwn (model X.prog X.w) X.A X.env xe → PSs (X.tr pn xe) body (tb W))
    (hsu : ∀ (a : Addr) (pn : List (Addr × Obj)), PSs (X.suite a pn) (b₀ :: suite) (ts a pn)) :
    PS X (.Try body [.ExceptHandler (some (.Name x np)) (some n) (b₀ :: suite) pos'] [] [] pos) (tTry X.K c i ts Wout tb) := by
  refine ⟨fun pins s σ H D I h => ?_⟩
  have ok := I.ok
  have hfr : X.A.frames = some (X.env :: X.outer) := by rw [ok.frames, hs]
  have hloc : Loc X.env.scope n := .inl hln
  refine wpAny_Try_except ?_
  refine wpAny_mono ((hb (wAsV X.K c i ts Wout D) (X.pn ++ pins) (fun e s₁ => wpAny (model X.prog X.w) X.A (noteFrame e X.env) (fun _ s₂ => wpAny (model X.prog X.w) X.A (setFlight e none) (fun _ s₃ =>
    wpAny (model X.prog X.w) X.A (handleBy e X.env [.ExceptHandler (some (.Name x np)) (some n) (b₀ :: suite) pos']) (SP X pins D) X.xe s₃) X.xe s₂) X.xe s₁) (fun u s' xx => ?_) PassesOwn.looking).run [] s σ H D (I.toTry _) h) (fun f s1 hsp => ?_) (fun e s1 he => he)
  · -- the catch
    obtain ⟨a, B, sI, pins', σ', H', cls, d, rfl, J', nb, up, sky, na, os, ag, b, hb1, hyes, hno⟩ := xx
    have J : Inv X pins σ' H' sI := J'.ofTry ok
    have sky' : Sky B (X.env :: X.outer) a (Zc cls d) X.env.locals s'.heap := by rw [← hs]; exact sky
    show wpAny (model X.prog X.w) X.A (noteFrame (.ref a) X.env) _ _ _
    refine Sky.land Zc.steady hfr hf sky' fun h3 fl3 up3 => ?_
    have J3 : Inv X pins σ' H' { s' with heap := h3 } := J.landed nb fl3.1 (up.trans up3) os ag
    obtain ⟨oe3, vs3, he3, hz3, hd3⟩ := fl3.there
    have notFr : ∀ {h : Heap} {o : Obj} {vs : Array Value}, h.FunFrames B (X.env :: X.outer) → h.get? a = some o → o.data = .fields vs → a ∉ frs (X.env :: X.outer) := fun {h o vs} ff e dd hm => by
      obtain ⟨_, o', e', hnf⟩ := ff.mem hm
      rw [e] at e'; cases e'
      exact hnf _ dd
    have nfr := notFr fl3.2.2.1 he3 hd3
    have nL : a ≠ X.env.locals := fun z => nfr (List.mem_filterMap.mpr ⟨X.env, List.mem_cons_self, by rw [hf, z]⟩)
    have nF : a ∉ X.fs := fun hm => by
      obtain ⟨e, he, q⟩ := List.mem_filterMap.mp hm
      exact nfr (List.mem_filterMap.mpr ⟨e, List.mem_cons_of_mem _ he, q⟩)
    have S3 := J3.suite he3 hd3 na nL nF
    refine wpAny_handleBy_cons (codeAny_handlers_test ?_) (by intro q; cases q)
    have LT : PySem.W.Looks (model X.prog X.w) h3 (typeOf (.ref a)) cls := fun A Q E s k q => wpAny_typeOf_ref (k _ _ he3) (by rw [hz3.1]; exact q)
    have LM := PySem.W.exm_one (M := model X.prog X.w) (J3.kIn) LT hb1
    have test : ∀ {Q : Value → Shared → Prop} {E : Value → Shared → Prop}, Q c { s' with heap := h3 } → wpAny (model X.prog X.w) (X.A.mark (some (.ref a))) (eval (.Name x np) X.env) Q E { s' with heap := h3 } := fun {Q E} q => by
      obtain ⟨hg, hdbg, hm | ⟨hm, hv, hnn⟩⟩ := hc
      · exact ld_glob (X := X.suite a ((a, oe3) :: (X.pn ++ pins))) S3 hg hm q hdbg
      · exact ld_blt (X := X.suite a ((a, oe3) :: (X.pn ++ pins))) S3 hg hm hv q hnn hdbg
    refine test (LM.here ?_)
    cases b with
    | true =>
      refine codeAny_handlers_suite_as ?_
      refine HandSPX.lands_againZ fl3 fun h4 fl4 up4 => ?_
      obtain ⟨oe4, vs4, he4, hz4, hd4⟩ := fl4.there
      have J4 : Inv X pins σ' (upd H' a (ExV cls d a)) { s' with heap := h4 } := landedV (s' := { s' with heap := h4 }) J nb fl4.1 ((up.trans up3).trans up4) os ag na fl4.2.1 (by rw [hs]; exact nfr) (exV_ok he4 hz4 hd4)
      have S4 := suiteV (a := a) J4
      refine store_ok (X := X.suite a (X.pn ++ pins)) (v := .ref a) S4 hN hi hloc rfl (fun s5 S5 => ?_) (.inr hln)
      refine wpAny_mono ((hsu a (X.pn ++ pins)).run [] s5 _ _ _ S5 (hyes rfl a (X.pn ++ pins) na)) (fun f s6 hsp => ?_) (fun _ _ z => False.elim z)
      have end_ : ∀ {σ6 : L2.St} {H6 : Hp} {Q : Shared → Prop}, Inv (X.suite a (X.pn ++ pins)) [] σ6 H6 s6 → (∀ s7, Inv X pins (σ6.set i none) H6 s7 → Q s7) →
          wpAny (model X.prog X.w) X.A (do bindName X.env n .none; unbindBehindTheSuite X.env n pos') (fun _ s7 => Q s7) X.xe s6 := fun {σ6 H6 Q} S6 hq => gone_ok (unsuiteV S6 ok) hN hi hln hq
      cases f with
      | next =>
        obtain ⟨σ6, H6, S6, q6⟩ := hsp
        exact end_ S6 fun s7 J7 => ⟨_, _, J7, q6⟩
      | brk =>
        obtain ⟨σ6, H6, S6, q6⟩ := hsp
        exact end_ S6 fun s7 J7 => ⟨_, _, J7, q6⟩
      | cont =>
        obtain ⟨σ6, H6, S6, q6⟩ := hsp
        exact end_ S6 fun s7 J7 => ⟨_, _, J7, q6⟩
      | ret u =>
        obtain ⟨v, σ6, H6, S6, r6, q6⟩ := hsp
        exact end_ S6 fun s7 J7 => ⟨v, _, _, J7, r6, q6⟩
    | false =>
      show wpAny _ X.A (handleBy (.ref a) X.env []) _ _ _
      refine wpAny_handleBy_nil ?_
      obtain ⟨k1, k2, k3, oe, vs, T, oT, ts', he, hz, hd, h1, hr⟩ := id fl3
      unfold PySem.passOn
      refine wpAny_bind (wpAny_field he hd h1 ?_)
      rw [if_neg (show ¬ ((Value.ref T == Value.none) = true) from by simp)]
      have fin : wpAny (model X.prog X.w) X.A (setFlight (.ref a) X.env.frame) (fun _ s4 => wpAny (model X.prog X.w) X.A (throw (.ref a) : Sem Flow) (SP X pins D) X.xe s4) X.xe { s' with heap := h3 } := by
        rw [hf]
        refine HandSPX.setFlight_upZ fl3 fun h4 hh4 up4 => wpAny_throw (tk _ _ ?_)
        exact ⟨a, B, sI, pins, σ', H', cls, d, rfl, J, nb, (up.trans up3).trans up4, .inr (.inr (by rw [hs]; exact hh4)), na, os, ag, hno rfl⟩
      first
        | exact wpAny_bind (wpAny_pure (wpAny_bind fin))
        | exact wpAny_bind fin
  · cases f with
    | next =>
      obtain ⟨σ', H', J', q⟩ := hsp
      exact wpAny_execs_nil ⟨σ', H', J'.ofTry ok, q⟩
    | brk =>
      obtain ⟨σ', H', J', q⟩ := hsp
      exact ⟨σ', H', J'.ofTry ok, q⟩
    | cont =>
      obtain ⟨σ', H', J', q⟩ := hsp
      exact ⟨σ', H', J'.ofTry ok, q⟩
    | ret u =>
      obtain ⟨v, σ', H', J', r, q⟩ := hsp
      exact ⟨v, σ', H', J'.ofTry ok, r, q⟩
end
structure ExcC (K : PySem.W.Frag) (D : Addr) : Prop where
  cl : (PySem.W.clsIn K D).isSome = true
  hg : PySem.W.findIn K (.ref D) "__getattribute__" = some (some (.builtin "BaseException.__getattribute__"))
  hk : PySem.W.findIn K (.ref D) "__getattr__" = some none
  hs : PySem.W.subIn K (.ref D) (.type "BaseException") = some true
  hd : PySem.W.hasDictIn K D = true
  ha : PySem.W.findIn K (.ref D) "__class__" = some (some (.builtin "object.__class__"))
  hn : PySem.W.specialIn K (.builtin "object.__class__") "__get__" = some (some (.builtin "getset_descriptor.__get__"))
  ht : PySem.W.takesIn K (.builtin "object.__class__") = some true
  hm : PySem.W.mroIn K D (.type "object") = some true
  ty : PySem.W.typeIn K (.ref D) = some (.type "type")
def DicOk (H : Hp) (d : Option Addr) : Prop := ∀ dd, d = some dd → ∃ fs, H dd = some (.xd fs)
section
variable {X : Cx} {pins : List (Addr × Obj)} {σ : L2.St} {H : Hp} {s : Shared}
theorem inst_of {a D : Addr} {d : Option Addr} (I : Inv X pins σ H s) (e : H a = some (ExV (.ref D) d a)) (hd : DicOk H d) : ∃ oe od, PySem.W.InstAt s.heap a oe D od := by
  obtain ⟨oe, vs, h1, h2, h3⟩ := exV_at I.hok e
  cases d with
  | none => exact ⟨oe, none, h1, h2.1, by unfold PySem.W.notCls; rw [h3] <;> rfl, by rw [h2.2]; trivial⟩
  | some dd =>
    obtain ⟨fs, hfs⟩ := hd dd rfl
    have hx : ObjOk X.prog X.w H s.heap dd (.xd fs) := I.hok dd _ hfs
    obtain ⟨mA, hns, hr⟩ := hx
    obtain ⟨od, ho, hl⟩ := lookIn_ns hns
    exact ⟨oe, some od, h1, h2.1, by unfold PySem.W.notCls; rw [h3] <;> rfl, by rw [h2.2]; exact ho⟩
def rIsV (K : PySem.W.Frag) : List V → Hp → VK → Prop := fun xs H Q => ∃ (a D : Addr) (d : Option Addr) (c : V) (cv : Value) (b : Bool), xs = [.ref a, c] ∧ H a = some (ExV (.ref D) d a) ∧ DicOk H d ∧ ExcC K D ∧ (∀ u, RelV c u → u = cv) ∧ PySem.W.kitOne K (.ref D) cv = some b ∧ Q (.bl b) H
theorem call_isV : CallR X (.builtin "isinstance") (rIsV X.K) := by
  intro pins s σ H xs us Q I r h
  obtain ⟨a, D, d, c, cv, b, rfl, ha, hd, C, hcv, e, q⟩ := h
  cases r with
  | cons rx rr =>
    cases rr with
    | cons rt rr =>
      cases rr
      cases rx
      have ec := hcv _ rt
      subst ec
      obtain ⟨oe, od, J⟩ := inst_of I ha hd
      exact PySem.W.kia_one (PySem.W.kitx_exc C.cl C.hg C.hk C.hs C.ha C.hn C.ht C.hm) I.kIn J e (fun z => nomatch z) fun tk => ⟨.bl b, H, I.kept (t' := tk) fun _ _ z => z, rfl, q⟩
end
section
variable {X : Cx} {e : Expr} {te : TE} {pos : Pos} {n : Str}
end
section
variable {X : Cx} {e : Expr} {es : List Expr} {ta : TA} {p1 p2 pos : Pos} {x : Str} {C0 : Addr}
structure BasC (K : PySem.W.Frag) (C0 : Addr) : Prop where
  rd : PySem.W.readsIn K C0 (.type "type") = true
  sg : PySem.W.specialIn K (.ref C0) "__getattribute__" = some (some (.builtin "type.__getattribute__"))
  vV : PySem.W.findCls K (.ref C0) (.type "type") "__init__" = some (.val (.builtin "ValueError.__init__"))
theorem pe_peI {pl : Sem Bool} (hm : X.mg x = some (.ref C0)) (T0 : BasC X.K C0) (ha : PA X (e :: es) ta) (hg : Gl X x := by rfl) (hdb : (x == ("__debug__" : Str)) = false := by decide)
    (hc : eval (.Call (.Attribute (.Name x p1) "__init__" p2) (e :: es) [] pos) X.env = (do
      let ov ← eval (.Name x p1) X.env
      standAt p2.atName
      let (f, first) ← holding [ov] (getMethod ov "__init__" pl)
      callWith pos f first (backTo pos (starEach (e :: es) X.env)) (backToKw pos (keywordEach [] X.env))) := by rfl)
    (he : starEach (e :: es) X.env = (false, eval e X.env) :: starEach es X.env := by rfl) (hpl : (backTo pos (starEach es X.env)).any (·.1) = false := by rfl) :
    PE X (.Call (.Attribute (.Name x p1) "__init__" p2) (e :: es) [] pos) (tVeI X.K ta) := by
  refine ⟨fun pins s σ H Q I h => ?_⟩
  refine PySem.W.methodCall_KW (ld_glob I hg hm ?_ hdb) hc
  refine PySem.W.method_cls I.kIn T0.sg (PySem.W.cls_value I.kIn T0.rd T0.vV (by decide +kernel) ?_)
  show wpAny _ _ (callWith pos (Value.builtin "ValueError.__init__") [] (backTo pos (starEach (e :: es) X.env)) []) _ _ _
  refine PyProof.Rows.callWith_method1 (thn (ha.run pos pins _ σ H _ (I.tok _) h) fun us s1 ⟨vs, H1, I1, r1, a, C, ws, ev, hl, T, ea, q⟩ => ?_) he hpl
  subst ev
  cases r1 with
  | @cons _ u0 _ ur ra rw' =>
    obtain rfl : u0 = Value.ref a := ra
    have hlen : ur.length ≤ sizeLine := by
      rw [← Paired.length rw', sizeLine_eq]
      omega
    exact oinit_ok T I1 ea hlen fun s' J => ⟨.non, H1, J, rfl, q⟩
end
def spEI2 (C : Addr) (f1 f2 : Str) : Sp := fun vs H Q _ => ∃ (p : Addr) (y z : V), vs = [.ref p, y, z] ∧ H p = some (exo p C none) ∧
  ∀ dx H', H dx = none → dx ≠ p → (∀ b, b ≠ p → b ≠ dx → H' b = H b) → H' p = some (exo p C (some dx)) → H' dx = some (exd dx [(f2, z), (f1, y)]) → Q .non H'
theorem spEI2_len {C : Addr} {f1 f2 : Str} {vs : List V} {H : Hp} {Q : VK} {E : XK} (h : spEI2 C f1 f2 vs H Q E) : vs.length = 3 := by
  obtain ⟨_, _, _, rfl, _⟩ := h
  rfl
theorem ei2_body {K : PySem.W.Frag} {C : Addr} {f1 f2 txt : Str} {n0 n1 n2 : Str} {vs : List V} {H : Hp} {Q : VK} {E : XK} (T : OexC K C) (h1 : PySem.W.findIn K (.ref C) f1 = some none) (h2 : PySem.W.findIn K (.ref C) f2 = some none) (h : spEI2 C f1 f2 vs H Q E) :
    tSeq (tDrop (tVeI K (tCons (tVar 0) (tCons (tC (.str txt)) tNil)))) (tSeq (tOst K f1 (tVar 0) (tVar 1)) (tSeq (tOst K f2 (tVar 0) (tVar 2)) tNext)) { nx := fun _ H' => Q .non H', rt := Q } (start [n0, n1, n2] vs) H := by
  obtain ⟨p, y, z, rfl, hp, k⟩ := h
  refine ⟨_, rfl, p, C, _, rfl, by simp, T, hp, ?_⟩
  refine ⟨_, rfl, _, rfl, p, C, rfl, T, h1, .inl ⟨hp, fun dx hd ne => ?_⟩⟩
  refine ⟨_, rfl, _, rfl, p, C, rfl, T, h2, .inr ⟨dx, _, upd_same, by rw [upd_ne ne, upd_same], by simp, ?_⟩⟩
  refine k dx _ hd ne (fun b b1 b2 => ?_) ?_ upd_same
  · rw [upd_ne b2, upd_ne b1, upd_ne b2]
  · rw [upd_ne (Ne.symm ne), upd_same]
end WX
set_option Elab.async false
set_option linter.all false
set_option maxRecDepth 100000
set_option maxHeartbeats 4000000
namespace WM
open PySem PySem.Spec L2 MM WX
abbrev ExTab := Nat → Option (Addr × List Str)
def FsE (ns : List Str) (xs : List Int) (fs : List (Str × V)) : Prop := ∀ (k : Nat) (n : Str) (x : Int), ns[k]? = some n → xs[k]? = some x → fs.lookup n = some (.int x)
def ExAt (L : ExTab) (Hv : Hp) (e : Exn) (cls : Value) (d : Option Addr) : Prop := ∃ C ns, L (e.1) = some (C, ns) ∧ cls = .ref C ∧ (ns = [] → d = none) ∧ (ns ≠ [] → ∃ dd fs, d = some dd ∧ Hv dd = some (.xd fs) ∧ FsE ns e.2 fs)
theorem ExAt.up {L : ExTab} {H H' : Hp} {e : Exn} {cls : Value} {d : Option Addr} (s : Same H H') : ExAt L H e cls d → ExAt L H' e cls d
  | ⟨C, ns, h1, h2, h3, h4⟩ => ⟨C, ns, h1, h2, h3, fun n => let ⟨dd, fs, e1, e2, e3⟩ := h4 n; ⟨dd, fs, e1, s _ _ e2, e3⟩⟩
theorem ExAt.dic {L : ExTab} {H : Hp} {e : Exn} {cls : Value} {d : Option Addr} : ExAt L H e cls d → DicOk H d
  | ⟨C, ns, h1, h2, h3, h4⟩ => fun dd q => by
    by_cases n : ns = []
    · rw [h3 n] at q
      cases q
    · obtain ⟨dd', fs, e1, e2, _⟩ := h4 n
      rw [e1] at q
      cases q
      exact ⟨fs, e2⟩
def tEx (L : ExTab) : Ty Exn := ⟨fun H v e => ∃ a cls d, v = .ref a ∧ H a = some (ExV cls d a) ∧ ExAt L H e cls d, fun s ⟨a, cls, d, e, h, x⟩ => ⟨a, cls, d, e, s _ _ h, x.up s⟩⟩
def tAt : Ty Addr := ⟨fun _ v a => v = .ref a, fun _ h => h⟩
structure Rg : Type 1 where
  {α : Type}
  a : Addr
  μ : OTy α
  x : α
inductive RgAll (Hv : Hp) : Hp → List Rg → Prop
  | nil : RgAll Hv emp []
  | cons {h g : Hp} {r : Rg} {rs : List Rg} : r.μ.rep Hv h (.ref r.a) r.x → RgAll Hv g rs → Disj h g → RgAll Hv (uni h g) (r :: rs)
theorem RgAll.up {Hv Hv' h : Hp} {rs : List Rg} (s : Same Hv Hv') (a : RgAll Hv h rs) : RgAll Hv' h rs := by
  induction a with
  | nil => exact .nil
  | cons r _ d ih => exact .cons (OTy.mono _ s r) ih d
def rgC : Nat → List Rg → Cxt
  | _, [] => []
  | k, r :: rs => (k, .ow (some r.a) r.μ r.x) :: rgC (k + 1) rs
def RgIn (Γ : Cxt) : Nat → List Rg → Prop
  | _, [] => True
  | k, r :: rs => get k Γ = some (.ow (some r.a) r.μ r.x) ∧ RgIn Γ (k + 1) rs
section
variable {B B0 B1 : Bs} {Γ : Cxt} {α β γ ς ε : Type} {τ : Ty α} {υ : Ty β} {μ : OTy α} {ν : OTy β} {x : α} {y : β} {t te tp : TE} {K : PySem.W.Frag} {D : Ends} {σ : L2.St} {Hv H : Hp} {i : Nat} {u : TS} {L : ExTab} {e : Exn} {W : WX}
theorem gather {F : Nat → Hp} (o : OwF B Γ σ Hv H F) : ∀ {rs : List Rg} {k : Nat}, RgIn Γ k rs → ∃ h, RgAll Hv h rs ∧ Same h H ∧ Disj h Hv ∧ (∀ b, h b ≠ none → B.H0 b = none ∨ B.own b) ∧ ∀ i e, (i, e) ∈ Γ → e.o = true → (i < k ∨ k + rs.length ≤ i) → Disj (F i) h
  | [], k, _ => ⟨emp, .nil, fun _ _ e => (nomatch e), Disj.empL, fun b n => absurd rfl n, fun _ _ _ _ _ => Disj.empR⟩
  | r :: rs, k, ⟨m, hr⟩ => by
    obtain ⟨h, a, s, d, n, dd⟩ := gather o hr
    have m' := get_mem m
    obtain ⟨v, hv, r1⟩ := o.ent _ _ m'
    have hv : v = .ref r.a := hv
    subst hv
    refine ⟨uni (F k) h, .cons r1 a (dd k _ m' rfl (.inl (Nat.lt_succ_self k))), same_uni (o.sub _ _ m' rfl) s, Disj.uniL (o.hid _ _ m' rfl) d, fun b nb => ?_, fun i e me oe hi => Disj.uniR ?_ (dd i e me oe ?_)⟩
    · rcases uni_ne nb with z | z
      · exact o.new _ _ b m' rfl z
      · exact n b z
    · exact o.dis i k _ _ me m' oe rfl (by
        rcases hi with z | z
        · omega
        · simp only [List.length_cons] at z
          omega)
    · rcases hi with z | z
      · exact .inl (by omega)
      · exact .inr (by simp only [List.length_cons] at z; omega)
structure RetOk (B0 : Bs) (Hv H h : Hp) : Prop where
  s : ∀ b o, ¬ B0.own b → B0.H0 b = some o → H b = some o
  a : ∀ b, B0.H0 b ≠ none → H b ≠ none
  v : Same B0.Hv0 Hv
  vis : Same Hv H
  nw : ∀ b, ¬ B0.own b → B0.H0 b ≠ none → B0.Hv0 b = none → Hv b = none
  sub : Same h H
  hid : Disj h Hv
  new : ∀ b, h b ≠ none → B0.H0 b = none ∨ B0.own b
def RtG (B0 : Bs) (ν : OTy γ) (rs : List Rg) (y : γ) (Q : VK) : Prop := ∀ v Hv H h hy, RetOk B0 Hv H (uni h hy) → Disj h hy → RgAll Hv h rs → ν.rep Hv hy v y → Q v H
def XG (L : ExTab) (B0 : Bs) (rs : List Rg) (e : Exn) (E : XK) : Prop := ∀ cls d Hv H h, RetOk B0 Hv H h → RgAll Hv h rs → ExAt L Hv e cls d → E cls d H
def XOut (L : ExTab) (B : Bs) (Γ : Cxt) (W : WX) (e : Exn) : Prop := ∀ (σ : L2.St) (Hv H : Hp) (cls : Value) (d : Option Addr), Wd B Γ σ Hv H → ExAt L Hv e cls d → W cls d σ H
theorem Wd.retOk {h : Hp} (w : Wd B0 Γ σ Hv H) (s : Same h H) (d : Disj h Hv) (n : ∀ b, h b ≠ none → B0.H0 b = none ∨ B0.own b) : RetOk B0 Hv H h := ⟨w.s0, w.a0, w.v0, w.vis, w.nw, s, d, n⟩
theorem XG.out {rs : List Rg} {E : XK} (X : XG L B0 rs e E) (l : Le B0 B) : XOut L B (rgC 1000 rs) (fun cls d _ H => E cls d H) e := fun σ Hv H cls d w x => by
  have w' := w.down l
  obtain ⟨F, o⟩ := w'.ow
  have hin : ∀ (rs : List Rg) (k : Nat), RgIn (rgC k rs) k rs := by
    have up : ∀ (rs : List Rg) (j : Nat) (Δ : Cxt), RgIn Δ j rs → ∀ Θ : Cxt, (∀ m, j ≤ m → get m Θ = get m Δ) → RgIn Θ j rs := by
      intro rs
      induction rs with
      | nil => exact fun _ _ _ _ _ => trivial
      | cons r rs ih => exact fun j Δ h Θ hg => ⟨(hg j (Nat.le_refl j)).trans h.1, ih (j + 1) Δ h.2 Θ fun m hm => hg m (by omega)⟩
    intro rs
    induction rs with
    | nil => exact fun _ => trivial
    | cons r rs ih =>
      intro k
      refine ⟨?_, up rs (k + 1) _ (ih (k + 1)) _ fun m hm => ?_⟩
      · show (bif Nat.beq k k then _ else _) = _
        rw [Nat.beq_refl]
        rfl
      · show (bif Nat.beq k m then _ else _) = _
        rw [show Nat.beq k m = false from by
          cases q : Nat.beq k m with
          | false => rfl
          | true => exact absurd (Nat.eq_of_beq_eq_true q) (by omega)]
        rfl
  obtain ⟨h, a, s, dd, n, _⟩ := gather o (hin rs 1000)
  exact X cls d Hv H h (w'.retOk s dd n) a x
theorem g_ret {rs : List Rg} (l : Le B0 B) (R : RtG B0 ν rs y D.rt) (hrg : RgIn Γ 1000 rs) (he : So B Γ te ν y) : G B (tSeq (tRet te) u) Γ D := fun σ Hv H w =>
  he σ Hv H w _ fun v Hv1 H1 hy c r => by
    have w1 := (w.grow c.grow).down l
    obtain ⟨F, o⟩ := w1.ow
    obtain ⟨h, a, s, d, n, _⟩ := gather o hrg
    obtain ⟨F0, o0⟩ := (w.down l).ow
    obtain ⟨h0, a0, s0, d0, n0, _⟩ := gather o0 hrg
    obtain ⟨f1, f2, f3⟩ := c.frame s0 d0 Disj.empR
    refine R v Hv1 H1 h0 hy (w1.retOk (same_uni f1 c.sub) (Disj.uniL f2 c.hid) fun b nb => ?_) f3 (a0.up c.v) r
    rcases uni_ne nb with z | z
    · exact n0 b z
    · rcases c.new b z with q | q
      · exact absurd rfl q
      · refine .inl ?_
        cases e : B0.H0 b with
        | none => rfl
        | some ob => exact absurd q ((w.down l).a0 b (ne_none_of e))
theorem g_retV {rs : List Rg} (l : Le B0 B) (R : RtG B0 μ rs x D.rt) (hrg : RgIn Γ 1000 rs) (hi : i < 1000) (m : get i Γ = some (.ow none μ x)) : G B (tSeq (tRet (tVar i)) u) Γ D := fun σ Hv H w => by
  have w1 := w.down l
  obtain ⟨F, o⟩ := w1.ow
  obtain ⟨h, a, s, d, n, dd⟩ := gather o hrg
  have m' := get_mem m
  obtain ⟨v, hv, r⟩ := o.ent _ _ m'
  have dx := dd i _ m' rfl (.inl hi)
  refine ⟨v, hv, R v Hv H h (F i) (w1.retOk (same_uni s (o.sub _ _ m' rfl)) (Disj.uniL d (o.hid _ _ m' rfl)) fun b nb => ?_) dx.symm a r⟩
  rcases uni_ne nb with z | z
  · exact n b z
  · exact o.new _ _ b m' rfl z
section
variable {S S' C C' R T T' : Type}
def Fin (L : ExTab) (B : Bs) (D : Ends) (Ls : S → Cxt) (Lc : C → Cxt) (RR : R → VK → Prop) (Le : T → Cxt) (W : WX) : Fl S C R T → Prop
  | .nx s => G B tNext (Ls s) D
  | .bk c => G B tBreak (Lc c) D
  | .ct c => G B tCont (Lc c) D
  | .rt r => RR r D.rt
  | .er e t => XOut L B (Le t) W e
def Sub : Cxt → Cxt → Prop
  | [], _ => True
  | (i, e) :: L, Γ => get i Γ = some e ∧ Sub L Γ
theorem Sub.mem : ∀ {L Γ : Cxt}, Sub L Γ → ∀ p ∈ L, p ∈ Γ
  | (i, e) :: L, Γ, ⟨h1, h2⟩, p, m => by
    rcases List.mem_cons.mp m with rfl | m
    · exact get_mem h1
    · exact Sub.mem h2 p m
theorem G.down {t : TS} (g : G B t Γ D) (l : Le B B1) : G B1 t Γ D := fun σ Hv H w => g σ Hv H (w.down l)
theorem XOut.down (x : XOut L B Γ W e) (l : Le B B1) : XOut L B1 Γ W e := fun σ Hv H cls d w z => x σ Hv H cls d (w.down l) z
theorem g_nx {Γ' : Cxt} (h : G B tNext Γ' D) (s : Sub Γ' Γ) : G B tNext Γ D := fun σ Hv H w => h σ Hv H (w.sub s.mem)
theorem xo_sub {Γ' : Cxt} (h : XOut L B Γ' W e) (s : Sub Γ' Γ) : XOut L B Γ W e := fun σ Hv H cls d w x => h σ Hv H cls d (w.sub s.mem) x
variable {Ls : S → Cxt} {Ls' : S' → Cxt} {Lc : C → Cxt} {RR : R → VK → Prop} {Le' : T → Cxt}
theorem g_join {c : TT} {ta tb : TS} {b : Bool} {m1 m2 : Option (Fl S C R T)} {k : S → Option (Fl S' C R T)} {o : Fl S' C R T} (Ls : S → Cxt) (hm : thenO (if b then m1 else m2) k = some o) (hf : Fin L B D Ls' Lc RR Le' W o) (hc : SmT B Γ c b)
    (h1 : b = true → ∀ ob, m1 = some ob → Fin L B { D with nx := u D } Ls Lc RR Le' W ob → G B ta Γ { D with nx := u D }) (h2 : b = false → ∀ ob, m2 = some ob → Fin L B { D with nx := u D } Ls Lc RR Le' W ob → G B tb Γ { D with nx := u D })
    (hr : ∀ s, k s = some o → G B u (Ls s) D) : G B (tSeq (tIfS c ta tb) u) Γ D := by
  have key : ∀ ob : Fl S C R T, (if b then m1 else m2) = some ob → Fin L B { D with nx := u D } Ls Lc RR Le' W ob := fun ob e => by
    unfold thenO at hm
    rw [e] at hm
    cases ob with
    | nx s => exact hr s hm
    | bk c => cases hm; exact hf
    | ct c => cases hm; exact hf
    | rt r => cases hm; exact hf
    | er e t => cases hm; exact hf
  refine fun σ Hv H w => hc σ Hv H w _ fun Hv1 H1 g1 => ?_
  cases b with
  | true => exact iteT (by
      refine thenE hm fun ob e => ?_
      exact h1 rfl ob (by simpa using e) (key ob e) σ Hv1 H1 (w.grow g1))
  | false => exact iteF (by
      refine thenE hm fun ob e => ?_
      exact h2 rfl ob (by simpa using e) (key ob e) σ Hv1 H1 (w.grow g1))
def LoopN {S : Type} (B : Bs) (I : S → Prop) (L : S → Cxt) : L2.St → Hp → Prop := fun σ H => ∃ s Hv, I s ∧ Wd B (L s) σ Hv H
theorem g_for {wi : TI} {g : TG} {tb : TS} {ys : List α} {up : α → Cxt → Cxt} {is : List Nat} {mb : α → S → Option (Fl S S R T)} {k : S → Option (Fl S' C R T)} {o : Fl S' C R T} {s0 : S} (Ls : S → Cxt) (hm : thenO (forO mb ys s0) k = some o) (hf : Fin L B D Ls' Lc RR Le' W o)
    (hs : SmW B Γ true wi τ ys) (hg : ∀ B1 : Bs, B1.n = B.n → Tgt B1 g τ up is) (hL : Sub (Ls s0) Γ)
    (hb : ∀ B1, Le B B1 → ∀ (x : α) (s : S) (D' : Ends) (ob : Fl S S R T), x ∈ ys → mb x s = some ob → Fin L B1 D' Ls Ls RR Le' W ob → G B1 tb (up x (Ls s)) D')
    (hr : ∀ s, k s = some o → G B u (Ls s) D) : G B (tSeq (tFor wi g tb) u) Γ D := fun σ Hv H w =>
  hs σ Hv H w _ fun J Gd Y Hv1 H1 g1 wk hG hY => by
    obtain ⟨l1, w1⟩ := (w.grow g1).rise
    refine for_it wk (D := { D with nx := u D }) (fun i σ' H' => LoopN { B with Hv0 := Hv1 } (fun s => thenO (forO mb (ys.drop i) s) k = some o) Ls σ' H') ⟨s0, Hv1, hm, w1.sub hL.mem⟩ ?_ ?_ ?_
    · rintro i σ' H' _ ⟨s, Hv', _, w'⟩
      exact hG Hv' H' w'.v0 w'.vis fun z => nomatch z
    · rintro i v σ' H' H'' hlt ⟨s, Hv', hI, w'⟩ yy
      obtain ⟨Hv2, z, g3, ez, rz⟩ := hY i H' v H'' Hv' hlt w'.v0 w'.vis (fun z => nomatch z) yy
      refine (hg { B with Hv0 := Hv1 } rfl).run _ _ Hv2 H'' v z (w'.grow g3) rz _ fun σ2 w2 _ _ => ?_
      have ed : ys.drop i = z :: ys.drop (i + 1) := by
        obtain ⟨hi, e⟩ := List.getElem?_eq_some_iff.mp ez
        rw [← e]
        exact (List.drop_eq_getElem_cons hi)
      rw [ed] at hI
      refine thenE hI fun of ef => ?_
      simp only [forO] at ef
      refine bindE ef fun ob eb _ => ?_
      have hI' : thenO (forO mb (z :: ys.drop (i + 1)) s) k = some o := hI
      unfold thenO at hI'
      simp only [forO, eb, Option.bind_some] at hI'
      refine hb _ l1 z s _ ob (List.mem_of_getElem? ez) eb ?_ σ2 Hv2 H'' w2
      cases ob with
      | nx s' => exact fun σ3 Hv3 H3 w3 => ⟨s', Hv3, hI', w3⟩
      | ct s' => exact fun σ3 Hv3 H3 w3 => ⟨s', Hv3, hI', w3⟩
      | bk s' =>
        simp only [Option.bind_some] at hI'
        exact fun σ3 Hv3 H3 w3 => hr s' hI' σ3 Hv3 H3 (w3.down l1)
      | rt r =>
        simp only [Option.bind_some] at hI'
        cases hI'
        exact hf
      | er e t =>
        simp only [Option.bind_some] at hI'
        cases hI'
        exact XOut.down hf l1
    · rintro σ' H' ⟨s, Hv', hI, w'⟩
      rw [List.drop_length] at hI
      exact hr s hI σ' Hv' H' (w'.down l1)
theorem g_while {c : TT} {tb : TS} {mc : S → Option Bool} {mb : S → Option (Fl S S R T)} {n : Nat} {k : S → Option (Fl S' C R T)} {o : Fl S' C R T} {s0 : S} (Ls : S → Cxt) (hm : thenO (whileO mc mb n s0) k = some o) (hf : Fin L B D Ls' Lc RR Le' W o) (hL : Sub (Ls s0) Γ)
    (hc : ∀ s b, mc s = some b → SmT B (Ls s) c b)
    (hb : ∀ (s : S) (D' : Ends) (ob : Fl S S R T), mc s = some true → mb s = some ob → Fin L B D' Ls Ls RR Le' W ob → G B tb (Ls s) D')
    (hr : ∀ s, k s = some o → G B u (Ls s) D) : G B (tSeq (tWhile c tb) u) Γ D := fun σ Hv H w => by
  refine ⟨fun m σ' H' => LoopN B (fun s => thenO (whileO mc mb m s) k = some o) Ls σ' H', ⟨n, s0, Hv, hm, w.sub hL.mem⟩, ?_⟩
  rintro m σ' H' ⟨s, Hv', hI, w'⟩
  cases m with
  | zero =>
    unfold thenO at hI
    simp only [whileO] at hI
    cases hI
  | succ m =>
    unfold thenO at hI
    simp only [whileO] at hI
    refine bindE hI fun of ef hI => ?_
    refine bindE ef fun b eb ef => ?_
    refine hc s b eb σ' Hv' H' w' _ fun Hv1 H1 g1 => ?_
    cases b with
    | true =>
      simp only [if_true] at ef
      refine bindE ef fun ob eo ef => ?_
      refine iteT ⟨fun σ2 H2 => LoopN B (fun s => thenO (whileO mc mb m s) k = some o) Ls σ2 H2, fun σ2 H2 h => ⟨m, Nat.lt_succ_self m, h⟩, hb s _ ob eb eo ?_ σ' Hv1 H1 (w'.grow g1)⟩
      have th : ∀ s', whileO mc mb m s' = some of → thenO (whileO mc mb m s') k = some o := fun s' h => by
        unfold thenO
        rw [h]
        exact hI
      cases ob with
      | nx s' => exact fun σ3 Hv3 H3 w3 => ⟨s', Hv3, th s' ef, w3⟩
      | ct s' => exact fun σ3 Hv3 H3 w3 => ⟨s', Hv3, th s' ef, w3⟩
      | bk s' =>
        cases ef
        exact fun σ3 Hv3 H3 w3 => hr s' hI σ3 Hv3 H3 w3
      | rt r =>
        cases ef
        cases hI
        exact hf
      | er e t =>
        cases ef
        cases hI
        exact hf
    | false =>
      simp only [Bool.false_eq_true, if_false] at ef
      cases ef
      exact iteF (hr s hI σ' Hv1 H1 (w'.grow g1))
end
end
end WM
set_option Elab.async false
set_option linter.all false
set_option maxRecDepth 100000
set_option maxHeartbeats 4000000
namespace WM
open PySem PySem.Spec L2 MM WX
section
variable {B B0 : Bs} {Γ : Cxt} {α β γ : Type} {τ : Ty α} {υ : Ty β} {φ : Ty γ} {x : α} {y : β} {K : PySem.W.Frag} {D : Ends} {L : ExTab} {W Wout : WX} {e : Exn} {u : TS} {i : Nat} {σ : L2.St} {Hv H : Hp}
def tObj {α : Type} (C : Addr) (sch : α → List (Str × As)) : Ty α := ⟨fun H v x => ∃ a dx fs, v = .ref a ∧ H a = some (.ins C dx fs) ∧ FsRep H fs (sch x), fun s ⟨a, dx, fs, e, h, r⟩ => ⟨a, dx, fs, e, s _ _ h, r.up s⟩⟩
def ixOf : List Str → Str → Option Nat
  | [], _ => none
  | n :: ns, m => if m = n then some 0 else (ixOf ns m).map (· + 1)
theorem FsRep.get {H : Hp} {fs : List (Str × V)} {as : List (Str × As)} {n : Str} (h : FsRep H fs as) : ∀ {k : Nat} {a : As}, ixOf (as.map (·.1)) n = some k → as[k]? = some (n, a) → ∃ v, fs.lookup n = some v ∧ a.τ.rep H v a.x := by
  induction h with
  | nil => intro k a e; cases e
  | cons r _ ih =>
    intro k a e e2
    rename_i m v fs b as _
    by_cases hn : n = m
    · subst hn
      simp only [List.map_cons, ixOf, if_pos] at e
      cases e
      cases e2
      exact ⟨v, by simp [List.lookup], r⟩
    · simp only [List.map_cons, ixOf, if_neg hn] at e
      cases q : ixOf (as.map (·.1)) n with
      | none => rw [q] at e; cases e
      | some j =>
        rw [q] at e
        cases e
        obtain ⟨v, h1, h2⟩ := ih q e2
        refine ⟨v, ?_, h2⟩
        have : (n == m) = false := by simpa using hn
        simp [List.lookup, this, h1]
theorem FsRep.none {H : Hp} {fs : List (Str × V)} {as : List (Str × As)} {n : Str} (h : FsRep H fs as) : ixOf (as.map (·.1)) n = none → fs.lookup n = none := by
  induction h with
  | nil => intro _; rfl
  | cons r _ ih =>
    intro e
    rename_i m v fs b as _
    by_cases hn : n = m
    · subst hn
      simp only [List.map_cons, ixOf, if_pos] at e
      cases e
    · simp only [List.map_cons, ixOf, if_neg hn] at e
      cases q : ixOf (as.map (·.1)) n with
      | none =>
        have : (n == m) = false := by simpa using hn
        simp [List.lookup, this, ih q]
      | some j => rw [q] at e; cases e
theorem sm_fld {C : Addr} {sch : α → List (Str × As)} {t : TE} {f : Str} {y : β} (h : Sm B Γ t (tObj C sch) x) (ns : List Str) (k : Nat) (hk : ixOf ns f = some k) (c : Cls K C) (n : NoAttr K C f) (hns : (sch x).map (·.1) = ns) (e : (sch x)[k]? = some (f, ⟨υ, y⟩)) : Sm B Γ (tFld K t f) υ y := fun σ Hv H w Q q =>
  h σ Hv H w _ fun v Hv1 H1 g1 ⟨a, dx, fs, ev, ha, r⟩ => by
    obtain ⟨u, h1, h2⟩ := r.get (by rw [hns]; exact hk) e
    exact ⟨a, C, dx, fs, u, ev, g1.vis _ _ ha, c, n, h1, q _ _ _ g1 h2⟩
end
theorem bb_len : bootBuiltins "len" = some (.builtin "len") := by decide +kernel
theorem bb_isinstance : bootBuiltins "isinstance" = some (.builtin "isinstance") := by decide +kernel
theorem bb_int : bootBuiltins "int" = some (.type "int") := by decide +kernel
theorem bb_bool : bootBuiltins "bool" = some (.type "bool") := by decide +kernel
theorem bb_str : bootBuiltins "str" = some (.type "str") := by decide +kernel
theorem bb_ValueError : bootBuiltins "ValueError" = some (.type "ValueError") := by decide +kernel
theorem bb_divmod : bootBuiltins "divmod" = some (.builtin "divmod") := by decide +kernel
section
variable {X : Cx}
theorem pe_gI {x : Str} {n : Int} {pos : Pos} (hm : ∃ t, X.mg x = some (.int n t)) (hg : Gl X x := by rfl) (hd : (x == ("__debug__" : Str)) = false := by decide) : PE X (.Name x pos) (tC (.int n)) := by
  obtain ⟨t, h⟩ := hm
  exact pe_glob hg h ⟨_, rfl⟩ hd
theorem pe_gS {x : Str} {n : Str} {pos : Pos} (hm : ∃ t, X.mg x = some (.str n t)) (hg : Gl X x := by rfl) (hd : (x == ("__debug__" : Str)) = false := by decide) : PE X (.Name x pos) (tC (.str n)) := by
  obtain ⟨t, h⟩ := hm
  exact pe_glob hg h ⟨_, rfl⟩ hd
theorem pe_ty {x : Str} {T : String} {pos : Pos} (hm : X.mg x = none) (hv : bootBuiltins x = some (.type T)) (hg : Gl X x := by rfl) (hn : x ≠ "__name__" := by decide) (hd : (x == ("__debug__" : Str)) = false := by decide) : PE X (.Name x pos) (tC (.ty T)) := pe_bltn hg hm hv rfl hn hd
theorem pe_cls {x : Str} {C : Addr} {pos : Pos} (hm : X.mg x = some (.ref C)) (hg : Gl X x := by rfl) (hd : (x == ("__debug__" : Str)) = false := by decide) : PE X (.Name x pos) (tC (.ref C)) := pe_glob hg hm rfl hd
def isInts : List Expr → Option (List Int)
  | [] => some []
  | .Constant (.int i) _ _ :: es => (isInts es).map (i :: ·)
  | _ => none
def tInts (ns : List Int) : TA := fun _ H Q => Q (ns.map V.int) H
theorem pa_ints : ∀ {es : List Expr} {ns : List Int}, isInts es = some ns → PA X es (tInts ns)
  | [], ns, h => by
    cases h
    exact pa_nil
  | e :: es, ns, h => by
    cases e with
    | Constant c j pos =>
      cases c with
      | int i =>
        unfold isInts at h
        cases q : isInts es with
        | none => rw [q] at h; cases h
        | some ms =>
          rw [q] at h
          cases h
          have r := pa_cons (X := X) (pe_int (i := i) (j := j) (pos := pos)) (pa_ints q)
          exact r
      | _ => cases h
    | _ => cases h
end
section
variable {B : Bs} {Γ : Cxt} {α β : Type} {τ : Ty α} {υ : Ty β} {x : α} {y : β} {K : PySem.W.Frag}
theorem smo_ints {ns : List Int} (h : ns.length ≤ 1000) : SmO B Γ (tLst (tInts ns)) tInt ns := fun σ Hv H w Q k => by
  refine ⟨by rw [List.length_map]; exact seq_lt h, fun p hp => ?_⟩
  exact k p _ Hv _ (Grow.newO w.vis hp) hp upd_same (Same.free w.vis hp) int_paired
structure TyIs (K : PySem.W.Frag) (τ : Ty α) (t : Value) : Prop where
  run : ∀ H v x, τ.rep H v x → TyX K H v t
theorem ti_int : TyIs K tInt (.type "int") := ⟨fun H v x h => by cases h; exact .base (.int x)⟩
theorem ti_str : TyIs K tStr (.type "str") := ⟨fun H v x h => by cases h; exact .base (.str x)⟩
theorem TyX.up {H H' : Hp} {v : V} {t : Value} (s : Same H H') (h : TyX K H v t) : TyX K H' v t := by
  cases h with
  | base b =>
    cases b with
    | non => exact .base .non
    | bl b => exact .base (.bl b)
    | int i => exact .base (.int i)
    | str z => exact .base (.str z)
    | flt b => exact .base (.flt b)
    | lst e => exact .base (.lst (s _ _ e))
    | frz e => exact .base (.frz (s _ _ e))
    | tup e => exact .base (.tup (s _ _ e))
    | dK e => exact .base (.dK (s _ _ e))
    | dT e => exact .base (.dT (s _ _ e))
    | ins e c h1 h2 h3 h4 => exact .base (.ins (s _ _ e) c h1 h2 h3 h4)
  | byt b => exact .byt b
  | set e => exact .set (s _ _ e)
  | kList e c => exact .kList e c
  | kTuple e c => exact .kTuple e c
  | kDict e c => exact .kDict e c
  | fTuple e => exact .fTuple (s _ _ e)
  | fDict e => exact .fDict (s _ _ e)
theorem sm_isi {t : TE} {c : String} {T : String} {b : Bool} (h : Sm B Γ t τ x) (ti : TyIs K τ (.type T)) (e : kitB T c = some b) : Sm B Γ (tCB (rIsi K) (tCons t (tCons (tC (.ty c)) tNil))) tBool b := fun σ Hv H w Q k =>
  h σ Hv H w _ fun v Hv1 H1 g1 r1 => ⟨v, .ty c, .type T, .type c, b, rfl, .ty c, TyX.up g1.vis (ti.run _ _ _ r1), kit_ty e, k _ _ _ g1 rfl⟩
theorem sm_bits {t : TE} {i : Int} (h : Sm B Γ t tInt i) : Sm B Γ (tBits t) tInt (Builtin.Int.intBits i : Nat) := fun σ Hv H w Q k => h σ Hv H w _ fun v Hv1 H1 g1 r1 => by
  cases r1
  exact ⟨i, rfl, k _ _ _ g1 rfl⟩
end
section
variable {B B0 : Bs} {Γ : Cxt} {α β γ : Type} {τ : Ty α} {υ : Ty β} {φ : Ty γ} {x : α} {y : β} {K : PySem.W.Frag} {D : Ends} {L : ExTab} {W Wout : WX} {e : Exn} {u : TS} {i : Nat} {σ : L2.St} {Hv H : Hp}
structure EqT (K : PySem.W.Frag) {α : Type} [DecidableEq α] (τ : Ty α) (n : Nat) where
  dat : α → PyData
  at_ : ∀ {H v x}, τ.rep H v x → Dp K H v (dat x)
  lay : ∀ x, (dat x).canLay0 = true
  dep : ∀ x, (dat x).depth ≤ n
  eqv : ∀ x y, PyData.eqv (dat x) (dat y) = decide (x = y)
section
variable [DecidableEq α] [DecidableEq β] {n m : Nat}
theorem EqT.all (E : EqT K τ n) {H : Hp} : ∀ {vs : List V} {xs : List α}, Paired (τ.rep H) vs xs → DpAll K H vs (xs.map E.dat)
  | _, _, .nil => .nil
  | _, _, .cons r t => .cons (E.at_ r) (EqT.all E t)
theorem EqT.shp (E : EqT K τ n) (hn : n ≤ 64) (x : α) : SeqAt.shaped (E.dat x) = true := by
  unfold SeqAt.shaped
  rw [E.lay x, Bool.true_and, decide_eq_true_iff]
  exact Nat.le_trans (E.dep x) hn
theorem sm_eqT {t u : TE} {x y : α} (E : EqT K τ n) (hn : n ≤ 64) (h : Sm B Γ t τ x) (h' : Sm B Γ u τ y) : Sm B Γ (tOp (rEqD K) t u) tBool (decide (x = y)) := fun σ Hv H w Q k =>
  h σ Hv H w _ fun v Hv1 H1 g1 r1 => h' σ Hv1 H1 (w.grow g1) _ fun v' Hv2 H2 g2 r2 =>
    ⟨_, _, E.at_ (τ.mono g2.vis (τ.mono g2.v r1)), E.at_ (τ.mono g2.vis r2), E.shp hn x, E.shp hn y, k _ _ _ (g1.trans g2) (congrArg V.bl (E.eqv x y))⟩
end
theorem bits_lt {x : Int} {n : Nat} (h : x.natAbs < 2 ^ n) : Builtin.Int.intBits x ≤ n := by
  unfold Builtin.Int.intBits
  by_cases e : x = 0
  · subst e; simp
  · have e2 : (x == 0) = false := by simpa using e
    rw [e2, if_neg (by decide)]
    have := (Nat.log2_lt (n := x.natAbs) (k := n) (by omega)).mpr h
    omega
theorem shlW {i j : Int} (n : Nat) (h : i.natAbs < 2 ^ n) (h0 : 0 ≤ j) (h1 : (n : Int) + j ≤ 100000000) : CShl i j := by
  have := bits_lt h
  exact ⟨h0, by omega⟩
theorem divW {i j : Int} (n : Nat) (h0 : 0 < j) (h : j.natAbs < 2 ^ n) (hn : n ≤ 9000) : CDivW i j := by
  refine ⟨h0, ?_⟩
  have := (Nat.log2_lt (n := j.natAbs) (k := n) (by omega)).mpr h
  omega
end
section
variable {B B0 : Bs} {Γ : Cxt} {α β γ : Type} {τ : Ty α} {υ : Ty β} {φ : Ty γ} {x : α} {y : β} {K : PySem.W.Frag} {D : Ends} {L : ExTab} {W Wout : WX} {e : Exn} {u : TS} {i : Nat} {σ : L2.St} {Hv H : Hp}
def SmR (L : ExTab) (B : Bs) (Γ : Cxt) (t : L2.St → Hp → XK → Prop) (e : Exn) : Prop := ∀ (σ : L2.St) (Hv H : Hp), Wd B Γ σ Hv H → ∀ Q : XK, (∀ cls d Hv' H', Grow Hv H Hv' H' → ExAt L Hv' e cls d → Q cls d H') → t σ H Q
def tRs (W : WX) (t : L2.St → Hp → XK → Prop) : TS := fun _ σ H => t σ H fun cls d H' => W cls d σ H'
theorem ps_rs {X : Cx} {W : WX} {e : Expr} {t : L2.St → Hp → XK → Prop} {pos : Pos} (hc : X.calm = true) (tk : Takes X W) (he : PMk X e t) : PS X (.Raise (some e) none pos) (tRs W t) := ps_raise hc tk he
theorem g_raise {t : L2.St → Hp → XK → Prop} (h : SmR L B Γ t e) (h2 : XOut L B Γ W e) : G B (tSeq (tRs W t) u) Γ D := fun σ Hv H w =>
  h σ Hv H w _ fun cls d Hv1 H1 g1 x => h2 σ Hv1 H1 cls d (w.grow g1) x
theorem smr_own {C : Addr} {k : Nat} (hk : L (k) = some (C, [])) : SmR L B Γ (fun _ H Q => Q (.ref C) none H) (k, []) := fun σ Hv H w Q q => q _ _ _ _ (Grow.refl w.vis) ⟨C, [], hk, rfl, fun _ => rfl, fun n => absurd rfl n⟩
theorem oex_heap {H1 H2 : Hp} {p d : Addr} {o1 o2 : HO} {fs : List (Str × V)} (hp : H1 p = none) (hd : H1 d = none) (ne : d ≠ p) (k : ∀ b, b ≠ p → b ≠ d → H2 b = upd H1 p o1 b) : upd (L2.del H2 p) d (.xd fs) = upd H1 d (.xd fs) := by
  funext b
  by_cases hb : b = d
  · subst hb
    rw [upd_same, upd_same]
  · rw [upd_ne hb, upd_ne hb]
    by_cases hbp : b = p
    · subst hbp
      rw [del_same, hp]
    · rw [del_ne hbp, k b hbp hb, upd_ne hbp]
theorem smr_oex2 {C : Addr} {k : Nat} {f1 f2 : Str} {t1 t2 : TE} {x1 x2 : Int} (hk : L (k) = some (C, [f1, f2])) (hne : (f1 == f2) = false) (ha : Sm B Γ t1 tInt x1) (hb : Sm B Γ t2 tInt x2) : SmR L B Γ (tMkO C (spEI2 C f1 f2) [] (tCons t1 (tCons t2 tNil))) (k, [x1, x2]) := fun σ Hv H w Q q =>
  ha σ Hv H w _ fun v Hv1 H1 g1 r1 => hb σ Hv1 H1 (w.grow g1) _ fun v' Hv2 H2 g2 r2 => by
    cases r1
    cases r2
    refine ⟨by simp, fun p hp => ?_⟩
    refine ⟨p, .int x1, .int x2, rfl, upd_same, fun dx H3 hd ne hb hp2 hd2 => ⟨rfl, dx, _, hp2, hd2, by rw [upd_ne ne] at hd; exact hd, ?_⟩⟩
    rw [upd_ne ne] at hd
    rw [oex_heap (o2 := .own 0) hp hd ne hb]
    refine q _ _ _ _ ((g1.trans g2).trans (Grow.new g2.vis hd)) ⟨C, [f1, f2], hk, rfl, fun z => (nomatch z), fun _ => ⟨dx, _, rfl, upd_same, fun j n x h1 h2 => ?_⟩⟩
    match j, h1, h2 with
    | 0, h1, h2 =>
      cases h1
      cases h2
      simp [List.lookup, hne]
    | 1, h1, h2 =>
      cases h1
      cases h2
      simp [List.lookup]
    | j + 2, h1, h2 => simp at h1
inductive ClsL : TA → List Addr → Prop
  | nil : ClsL tNil []
  | cons {C : Addr} {t : TA} {cs : List Addr} : ClsL t cs → ClsL (tCons (tC (.ref C)) t) (C :: cs)
theorem ClsL.run {t : TA} {cs : List Addr} (h : ClsL t cs) : ∀ (σ : L2.St) (H : Hp) (Q : List V → Hp → Prop), Q (cs.map V.ref) H → t σ H Q := by
  induction h with
  | nil => exact fun σ H Q q => q
  | cons _ ih => exact fun σ H Q q => ih σ H _ q
theorem nn_int {H : Hp} {v : V} {x : Int} (h : tInt.rep H v x) : v ≠ .non := fun z => by cases h; cases z
theorem sm_some {t : TE} (h : Sm B Γ t τ x) (n : ∀ {H : Hp} {v : V} {x : α}, τ.rep H v x → v ≠ .non) : Sm B Γ t (tOpt τ) (some x) := fun σ Hv H w Q k => h σ Hv H w _ fun v Hv1 H1 g1 r1 => k v Hv1 H1 g1 ⟨n r1, r1⟩
theorem rel_ref {C : Addr} (u : Value) (h : RelV (.ref C) u) : u = .ref C := h
theorem rel_ty {T : String} (u : Value) (h : RelV (.ty T) u) : u = .type T := h
theorem kit_ve {D : Addr} {b : Bool} (h : PySem.W.subIn K (.ref D) (.type "ValueError") = some b) : PySem.W.kitOne K (.ref D) (.type "ValueError") = some b := by
  unfold PySem.W.kitOne
  rw [if_neg (by simp)]
  exact h
theorem kit_of {D C : Addr} {b : Bool} (T : WX.ExcC K C) (s : PySem.W.subIn K (.ref D) (.ref D) = some true) (p : PySem.W.subIn K (.ref D) (.ref C) = some b) : PySem.W.kitOne K (.ref D) (.ref C) = some b := by
  unfold PySem.W.kitOne
  by_cases e : D = C
  · subst e
    rw [s] at p
    cases p
    simp
  · rw [if_neg (by simpa using e)]
    show (if ((PySem.W.clsIn K C).isSome && PySem.W.typeIn K (.ref C) == some (.type "type")) = true then PySem.W.subIn K (.ref D) (.ref C) else none) = some b
    rw [if_pos (by rw [T.cl, T.ty] <;> rfl)]
    exact p
theorem sm_divmod {t u : TE} {i j : Int} (h : Sm B Γ t tInt i) (h' : Sm B Γ u tInt j) (c : CDiv i j) : Sm B Γ (tCB (fun xs H Q => ∃ i j, xs = [.int i, .int j] ∧ CDiv i j ∧ ∀ p, H p = none → Q (.ref p) (upd H p (.tup [.int (i / j), .int (i % j)]))) (tCons t (tCons u tNil))) (tTup2 tInt tInt) (i / j, i % j) := fun σ Hv H w Q k =>
  h σ Hv H w _ fun v Hv1 H1 g1 r1 => h' σ Hv1 H1 (w.grow g1) _ fun u Hv2 H2 g2 r2 => by
    cases r1
    cases r2
    refine ⟨i, j, rfl, c, fun p hp => ?_⟩
    exact k _ _ _ ((g1.trans g2).trans (Grow.new g2.vis hp)) ⟨p, _, _, rfl, upd_same, rfl, rfl⟩
end
end WM
set_option Elab.async false
set_option linter.all false
set_option maxRecDepth 100000
set_option maxHeartbeats 4000000
namespace WX
open PySem PySem.Spec PyProof.Rows L2
section
variable {X : Cx} {CX : CXT} {k : Nat} {f C : Addr} {fd : FuncData} {ps : List Str} {sp : Sp} {dvs : List V} {ds : List Value} {E : L2.St → XK} {x m : Str} {p pos apos : Pos} {e o : Expr} {es : List Expr} {ta : TE} {t : TA}
def tMakeS (C : Addr) (sp : Sp) (dvs : List V) (E : L2.St → XK) (t : TA) : TE := fun σ H Q => t σ H fun vs H1 => ∀ x dx, H1 x = none → H1 dx = none → dx ≠ x →
  sp (.ref x :: (vs ++ dvs)) (upd (upd H1 dx (.own x)) x (.ins C dx [])) (fun v H2 => v = .non ∧ Q (.ref x) H2) (E σ)
theorem run_makeS {pins : List (Addr × Obj)} {σ : L2.St} {H : Hp} {s : Shared} {Q : VK} {us : List Value} {vs : List V} (M : Mk X.K C f) (F : FnOk X.prog X.w X.K X.mg X.base CX k f fd ps sp) (hr : Room (k + 1) X.A) (hb : Binds X.K fd ps ds) (hd : Vals dvs ds)
    (hx : PassesAt CX X σ (E σ)) (I : Inv X pins σ H s) (r : Vals vs us)
    (h : ∀ x dx, H x = none → H dx = none → dx ≠ x → sp (.ref x :: (vs ++ dvs)) (upd (upd H dx (.own x)) x (.ins C dx [])) (fun v H2 => v = .non ∧ Q (.ref x) H2) (E σ)) :
    wpAny (model X.prog X.w) X.A (call (.ref C) us) (EP X pins σ Q) X.xe s := by
  have hq := h (s.heap.objs.size + 1) s.heap.objs.size (I.hok.fresh (Nat.le_succ _)) (I.hok.fresh (Nat.le_refl _)) (Nat.ne_of_lt (Nat.lt_succ_self _))
  have I2 := Inv.made (C := C) I
  have r2 : Vals (V.ref (s.heap.objs.size + 1) :: (vs ++ dvs)) (Value.ref (s.heap.objs.size + 1) :: (us ++ ds)) := .cons rfl (r.append hd)
  have hl : (Value.ref (s.heap.objs.size + 1) :: us ++ ds).length = ps.length := by
    have e := r2.length
    rw [F.len _ _ _ _ hq] at e
    exact e.symm
  refine wpAny_call (make_map (f := f) I.kIn M.makes M.init (beq_iff_eq.mp M.fn) (codeAny_mono (F.run _ X.stack _ _ ⟨Value.ref (s.heap.objs.size + 1) :: us, []⟩ (Value.ref (s.heap.objs.size + 1) :: (us ++ ds)) _ _ (E σ) (hr.make C us [])
    (I2.env0.make C us []) (hb _ (Value.ref (s.heap.objs.size + 1) :: us) I2.kIn hl) r2 hq) fun r s' hq' => ?_))
  cases r with
  | error e => exact hx pins _ _ e s' I2 hq'
  | ok fl =>
    cases fl with
    | ret u =>
      obtain ⟨v, H', I3, rv, ev, q3⟩ := I2.after hq'
      subst ev
      exact ⟨rv, ⟨V.ref (s.heap.objs.size + 1), H', I3, rfl, q3⟩⟩
    | next => exact False.elim hq'
    | brk => exact False.elim hq'
    | cont => exact False.elim hq'
theorem pe_makeS (M : Mk X.K C f) (F : FnOk X.prog X.w X.K X.mg X.base CX k f fd ps sp) (hr : Room (k + 1) X.A) (hg : Gl X x) (hm : X.mg x = some (.ref C)) (hb : Binds X.K fd ps ds) (hd : Vals dvs ds) (hx : ∀ σ, PassesAt CX X σ (E σ))
    (ha : PA X (e :: es) t) (hdb : (x == ("__debug__" : Str)) = false := by decide) (he : starEach (e :: es) X.env = (false, eval e X.env) :: starEach es X.env := by rfl) (hpl : (backTo pos (starEach es X.env)).any (·.1) = false := by rfl) :
    PE X (.Call (.Name x p) (e :: es) [] pos) (tMakeS C sp dvs E t) := by
  refine ⟨fun pins s σ H Q I h => ?_⟩
  refine wpAny_Call_Name_kw (ld_glob I hg hm ?_ hdb)
  refine PySem.W.callWith_K (h₀ := X.base) I.ok.mod.kin M.kp (thn (ha.run pos pins s σ H _ I h) fun us s1 ⟨vs, H1, I1, r, q⟩ => ⟨I1.kIn, ?_⟩) he hpl
  exact run_makeS M F hr hb hd (hx σ) I1 r q
end
end WX
set_option Elab.async false
set_option linter.all false
set_option maxRecDepth 100000
set_option maxHeartbeats 4000000
namespace WM
open PySem PySem.Spec L2 MM WX
structure OAs : Type 1 where
  {α : Type}
  μ : OTy α
  x : α
inductive OFs (Hv : Hp) : Hp → List (Str × V) → List (Str × OAs) → Prop
  | nil : OFs Hv emp [] []
  | cons {h g : Hp} {n : Str} {v : V} {a : OAs} {fs : List (Str × V)} {as : List (Str × OAs)} : a.μ.rep Hv h v a.x → OFs Hv g fs as → Disj h g → OFs Hv (uni h g) ((n, v) :: fs) ((n, a) :: as)
theorem OFs.up {Hv Hv' h : Hp} {fs : List (Str × V)} {as : List (Str × OAs)} (s : Same Hv Hv') (a : OFs Hv h fs as) : OFs Hv' h fs as := by
  induction a with
  | nil => exact .nil
  | cons r _ d ih => exact .cons (OTy.mono _ s r) ih d
def OFsAt (C : Addr) (Hv h : Hp) (v : V) (as : List (Str × OAs)) : Prop := ∃ a dx fs g, v = .ref a ∧ OFs Hv g fs as ∧ g a = none ∧ h = upd g a (.ins C dx fs)
theorem OFsAt.up {C : Addr} {Hv Hv' h : Hp} {v : V} {as : List (Str × OAs)} (s : Same Hv Hv') : OFsAt C Hv h v as → OFsAt C Hv' h v as
  | ⟨a, dx, fs, g, e, r, n, q⟩ => ⟨a, dx, fs, g, e, r.up s, n, q⟩
def oPart (C : Addr) (as : List (Str × OAs)) : OTy Unit := ⟨fun Hv h v _ => OFsAt C Hv h v as, OFsAt.up⟩
def oObj {α : Type} (C : Addr) (sch : α → List (Str × OAs)) : OTy α := ⟨fun Hv h v x => OFsAt C Hv h v (sch x), OFsAt.up⟩
def putA (f : Str) (a : OAs) : List (Str × OAs) → List (Str × OAs)
  | [] => [(f, a)]
  | (g, b) :: r => if g = f then (g, a) :: r else (g, b) :: putA f a r
theorem OFs.len {Hv h : Hp} {fs : List (Str × V)} {as : List (Str × OAs)} (a : OFs Hv h fs as) : fs.length = as.length := by
  induction a with
  | nil => rfl
  | cons _ _ _ ih => simp [ih]
theorem OFs.put {Hv g h : Hp} {f : Str} {v : V} {b : OAs} {fs : List (Str × V)} {as : List (Str × OAs)} (a : OFs Hv g fs as) (r : b.μ.rep Hv h v b.x) (d : Disj g h) : ∃ g', OFs Hv g' (putF f v fs) (putA f b as) ∧ (∀ c o, g' c = some o → g c = some o ∨ h c = some o) := by
  induction a with
  | nil => exact ⟨uni h emp, .cons r .nil Disj.empR, fun c o e => by rw [uni_emp] at e; exact .inr e⟩
  | @cons h1 g1 n u a1 fs as q rest dd ih =>
    by_cases hn : n = f
    · subst hn
      refine ⟨uni h g1, ?_, fun c o e => (uni_some e).elim .inr fun z => .inl (same_uniR dd _ _ z.2)⟩
      show OFs Hv (uni h g1) (if n = n then (n, v) :: fs else _) (if n = n then (n, b) :: as else _)
      rw [if_pos rfl, if_pos rfl]
      exact .cons r rest d.r.symm
    · obtain ⟨g', r', hg⟩ := ih d.r
      refine ⟨uni h1 g', ?_, fun c o e => ?_⟩
      · show OFs Hv (uni h1 g') (if n = f then _ else (n, u) :: putF f v fs) (if n = f then _ else (n, a1) :: putA f b as)
        rw [if_neg hn, if_neg hn]
        refine .cons q r' fun c nc => ?_
        cases e : g' c with
        | none => rfl
        | some o =>
          rcases hg c o e with z | z
          · rw [dd c nc] at z
            cases z
          · rw [d.l c nc] at z
            cases z
      · rcases uni_some e with z | ⟨_, z⟩
        · exact .inl (uni_l z)
        · exact (hg c o z).imp (fun z => same_uniR dd _ _ z) id
theorem OFs.none {Hv h : Hp} {n : Str} {fs : List (Str × V)} {as : List (Str × OAs)} (a : OFs Hv h fs as) : ixOf (as.map (·.1)) n = Option.none → fs.lookup n = Option.none := by
  induction a with
  | nil => intro _; rfl
  | @cons h1 g1 m v b fs as _ _ _ ih =>
    intro e
    by_cases hn : n = m
    · subst hn
      simp only [List.map_cons, ixOf, if_pos] at e
      cases e
    · simp only [List.map_cons, ixOf, if_neg hn] at e
      cases q : ixOf (as.map (·.1)) n with
      | none =>
        have : (n == m) = false := by simpa using hn
        simp [List.lookup, this, ih q]
      | some j => rw [q] at e; cases e
theorem OFs.at {Hv : Hp} {f : Str} {b : OAs} : ∀ {j : Nat} {g : Hp} {fs : List (Str × V)} {as : List (Str × OAs)}, OFs Hv g fs as → ixOf (as.map (·.1)) f = some j → as[j]? = some (f, b) → ∃ v h1 h2, fs.lookup f = some v ∧ g = uni h1 h2 ∧ Disj h1 h2 ∧ b.μ.rep Hv h1 v b.x ∧
    ∀ Hv' h1' z', Same Hv Hv' → b.μ.rep Hv' h1' v z' → Disj h1' h2 → OFs Hv' (uni h1' h2) fs (as.set j (f, ⟨b.μ, z'⟩))
  | j, _, _, _, .nil, e, _ => nomatch e
  | j, _, _, _, .cons (h := h) (g := g) (n := n) (v := v) (a := a) (fs := fs) (as := as) r rest d, e, e2 => by
    by_cases hn : f = n
    · subst hn
      simp only [List.map_cons, ixOf, if_pos] at e
      cases e
      simp at e2
      subst e2
      exact ⟨v, h, g, by simp [List.lookup], rfl, d, r, fun Hv' h1' z' s r' d' => .cons (a := ⟨_, z'⟩) r' (rest.up s) d'⟩
    · simp only [List.map_cons, ixOf, if_neg hn] at e
      cases q : ixOf (as.map (·.1)) f with
      | none => rw [q] at e; cases e
      | some i =>
        rw [q] at e
        cases e
        obtain ⟨u, h1, h2, k1, k2, k3, k4, up⟩ := OFs.at rest q (by simpa using e2)
        subst k2
        have d1 : Disj h h1 := d.symm.l.symm
        have : (f == n) = false := by simpa using hn
        refine ⟨u, h1, uni h h2, by simp [List.lookup, this, k1], ?_, Disj.uniR d1.symm k3, k4, fun Hv' h1' z' s r' d' => ?_⟩
        · rw [← uni_assoc, uni_comm d1, uni_assoc]
        · have dd : Disj h1' h := d'.symm.l.symm
          have : uni h1' (uni h h2) = uni h (uni h1' h2) := by rw [← uni_assoc, uni_comm dd, uni_assoc]
          rw [this]
          exact .cons (OTy.mono _ s r) (up Hv' h1' z' s r' d'.symm.r.symm) (Disj.uniR dd.symm d.symm.r.symm)
inductive FrzFs : List (Str × OAs) → List (Str × As) → Prop
  | nil : FrzFs [] []
  | cons {α : Type} {n : Str} {μ : OTy α} {τ : Ty α} {x : α} {as : List (Str × OAs)} {bs : List (Str × As)} : Frz μ τ → FrzFs as bs → FrzFs ((n, ⟨μ, x⟩) :: as) ((n, ⟨τ, x⟩) :: bs)
theorem OFs.frz {Hv h : Hp} {fs : List (Str × V)} {as : List (Str × OAs)} (a : OFs Hv h fs as) : ∀ {bs : List (Str × As)}, FrzFs as bs → Disj h Hv → FsRep (uni Hv h) fs bs := by
  induction a with
  | nil =>
    intro bs f _
    cases f
    exact .nil
  | cons r _ d ih =>
    intro bs f dd
    cases f with
    | cons f1 f2 =>
      refine .cons (Ty.mono _ ?_ (f1.run r dd.l)) (FsRep.up ?_ (ih f2 dd.r))
      · rw [← uni_assoc]
        exact same_uniL
      · rw [uni_comm d, ← uni_assoc]
        exact same_uniL
theorem frz_O {α : Type} {C : Addr} {sch : α → List (Str × OAs)} {sch' : α → List (Str × As)} (f : ∀ x, FrzFs (sch x) (sch' x)) : Frz (oObj C sch) (tObj C sch') := ⟨fun {Hv h v x} ⟨a, dx, fs, g, e, r, n, q⟩ d => by
  subst e q
  have dg : Disj g Hv := fun b nb => d b (by
    by_cases hb : b = a
    · subst hb
      rw [n] at nb
      exact absurd rfl nb
    · rw [upd_ne hb]
      exact nb)
  have nl : Hv a = none := d a (by rw [upd_same]; exact fun z => nomatch z)
  refine ⟨a, dx, fs, rfl, by rw [uni_r nl]; exact upd_same, FsRep.up (fun b o e => ?_) (r.frz (f x) dg)⟩
  rcases uni_some e with h | ⟨h1, h2⟩
  · exact uni_l h
  · rw [uni_r h1, upd_ne (ne_of_none h2 n)]
    exact h2⟩
section
variable {B B0 B1 : Bs} {Γ : Cxt} {α β γ δ ς ε ρ : Type} {τ : Ty α} {υ : Ty β} {μ : OTy α} {ν : OTy β} {φ : OTy γ} {x : α} {y : β} {t te tp : TE} {K : PySem.W.Frag} {D : Ends} {σ : L2.St} {Hv H : Hp} {i : Nat} {u : TS} {L : ExTab} {e : Exn} {W Wout : WX} {k : Option Addr} {C : Addr} {f : Str} {a : Addr}
theorem sm_fldI {as : List (Str × OAs)} (ns : List Str) (j : Nat) (hk : ixOf ns f = some j) (c : Cls K C) (nf : NoAttr K C f) (he : Sm B Γ t tAt a) (m : get i Γ = some (.ow (some a) (oPart C as) ())) (hns : as.map (·.1) = ns) (hj : as[j]? = some (f, ⟨oF υ, y⟩)) : Sm B Γ (tFld K t f) υ y := fun σ Hv H w Q q => by
  obtain ⟨v, h, hv, ⟨b, dx, fs, g, ev, rf, n, eq⟩, s, d, up⟩ := w.open (get_mem m)
  have hv : v = .ref a := hv
  subst hv eq
  cases ev
  obtain ⟨u, k1, k2, e1, e2, d2, ⟨r0, r2⟩, up2⟩ := rf.at (by rw [hns]; exact hk) hj
  refine he σ Hv H w _ fun v1 Hv1 H1 g1 e3 => ?_
  have e3 : v1 = .ref a := e3
  subst e3
  exact ⟨a, C, dx, fs, u, rfl, g1.s _ _ (s _ _ upd_same), c, nf, e1, q _ _ _ g1 (υ.mono g1.v r2)⟩
theorem Chg.disj {g h' Hv1 H1 : Hp} (c : Chg Hv H emp Hv1 H1 h') (s : Same g H) : Disj g h' := fun b nb => by
  cases e : h' b with
  | none => rfl
  | some o =>
    rcases c.new b (ne_none_of e) with z | z
    · exact absurd rfl z
    · exact absurd z (Same.some_ne s nb)
theorem g_fldI {as : List (Str × OAs)} (c : Cls K C) (nf : NoAttr K C f) (hl : as.length < 900) (hp : Sm B Γ tp tAt a) (m : get i Γ = some (.ow (some a) (oPart C as) ())) (he : So B Γ te ν y) (h : G B u (put i (.ow (some a) (oPart C (putA f ⟨ν, y⟩ as)) ()) Γ) D) : G B (tSeq (sFld K tp te f) u) Γ D := fun σ Hv H w => by
  obtain ⟨v, hh, hv, ⟨b, dx, fs, g, ev, rf, n, eq⟩, s, d, up⟩ := w.open (get_mem m)
  have hv : v = .ref a := hv
  subst hv eq
  cases ev
  refine he σ Hv H w _ fun v1 Hv1 H1 ge cg r => hp σ Hv1 H1 (w.grow cg.grow) _ fun v2 Hv2 H2 g2 e2 => ?_
  have e2 : v2 = .ref a := e2
  subst e2
  have cc := (cg.par g2.chg).1
  rw [uni_emp] at cc
  have sg : Same g H := fun b o e => s _ _ (by rw [upd_ne (ne_of_none e n)]; exact e)
  obtain ⟨g', r', hg⟩ := (rf.up cc.v).put (f := f) (b := ⟨ν, y⟩) (ν.mono g2.v r) (cc.disj sg)
  have ha : H2 a = some (.ins C dx fs) := cc.s _ _ rfl (s _ _ upd_same)
  have n' : g' a = none := by
    cases e : g' a with
    | none => rfl
    | some o =>
      rcases hg a o e with z | z
      · rw [n] at z
        cases z
      · rcases cc.new a (ne_none_of z) with q | q
        · exact absurd rfl q
        · rw [s _ _ upd_same] at q
          cases q
  refine ⟨a, C, dx, fs, rfl, ha, c, nf, by rw [rf.len]; omega, ?_⟩
  exact h σ _ _ (up _ () Hv2 _ _ (Chg.lst n s d cc hg n') ⟨a, dx, _, g', rfl, r', n', rfl⟩)
theorem g_done {as : List (Str × OAs)} {sch : α → List (Str × OAs)} {t : TS} (i : Nat) (m : get i Γ = some (.ow (some a) (oPart C as) ())) (e : as = sch x) (h : G B t (put i (.ow (some a) (oObj C sch) x) Γ) D) : G B t Γ D := fun σ Hv H w => by
  obtain ⟨v, hh, hv, r, s, d, up⟩ := w.open (get_mem m)
  subst e
  exact h σ Hv H (up (oObj C sch) x Hv H hh ⟨fun _ _ _ e => e, fun _ n => n, Same.refl _, w.vis, fun _ _ _ z => z, s, d, fun _ n => .inl n⟩ r)
def spP (as : ρ → List As) (m : ρ → Option γ) (φ : OTy γ) : Sp := fun vs H Q _ => ∃ (r : ρ) (Hv : Hp) (y : γ), Same Hv H ∧ Reps Hv vs (as r) ∧ m r = some y ∧ ∀ v Hv' H' hy, Chg Hv H emp Hv' H' hy → φ.rep Hv' hy v y → Q v H'
def spX (L : ExTab) (as : ρ → List As) (m : ρ → Option (Except Exn γ)) (φ : OTy γ) : Sp := fun vs H Q E => ∃ (r : ρ) (Hv : Hp) (o : Except Exn γ), Same Hv H ∧ Reps Hv vs (as r) ∧ m r = some o ∧ (∀ y, o = .ok y → ∀ v Hv' H' hy, Chg Hv H emp Hv' H' hy → φ.rep Hv' hy v y → Q v H') ∧
  (∀ e, o = .error e → ∀ cls d Hv' H', Grow Hv H Hv' H' → ExAt L Hv' e cls d → E cls d H')
theorem Reps.len {Hv : Hp} {vs : List V} {as : List As} (r : Reps Hv vs as) : vs.length = as.length := by
  induction r with
  | nil => rfl
  | cons _ _ ih => simp [ih]
def argC : Nat → List As → Cxt
  | _, [] => []
  | i, a :: as => (i, .fz a.τ a.x) :: argC (i + 1) as
variable {as : ρ → List As} {vs : List V} {Q : VK} {E : XK}
theorem spP_len {m : ρ → Option γ} {n : Nat} (hn : ∀ r, (as r).length = n) (h : spP as m φ vs H Q E) : vs.length = n := by
  obtain ⟨r, _, _, _, h, _⟩ := h
  rw [Reps.len h, hn]
theorem spX_len {m : ρ → Option (Except Exn γ)} {n : Nat} (hn : ∀ r, (as r).length = n) (h : spX L as m φ vs H Q E) : vs.length = n := by
  obtain ⟨r, _, _, _, h, _⟩ := h
  rw [Reps.len h, hn]
theorem so_call {m : ρ → Option γ} {t : TA} {z : γ} (r : ρ) (hm : m r = some z) (ha : SmA B Γ t (as r)) : So B Γ (tCall (spP as m φ) [] E t) φ z := fun σ Hv H w Q q =>
  ha σ Hv H w _ fun us Hv1 H1 g1 rs => by
    show spP as m φ (us ++ []) H1 Q E
    rw [List.append_nil]
    exact ⟨r, Hv1, z, g1.vis, rs, hm, fun v Hv2 H2 hy c r2 => q _ _ _ _ (g1.chg.trans c) r2⟩
theorem so_meth {C : Addr} {sch : β → List (Str × As)} {m : ρ → Option γ} {ta : TE} {t : TA} {as' : List As} {z : γ} {mn : Str} (r : ρ) (ns : List Str) (hmn : ixOf ns mn = none) (hm : m r = some z) (h : Sm B Γ ta (tObj C sch) y) (hns : (sch y).map (·.1) = ns) (e : as r = ⟨tObj C sch, y⟩ :: as') (ha : SmA B Γ t as') :
    So B Γ (tMeth C mn (spP as m φ) [] E ta t) φ z := fun σ Hv H w Q q =>
  h σ Hv H w _ fun v Hv1 H1 g1 rv => by
    have rv' := rv
    obtain ⟨a, dx, fs, ev, h1, r1⟩ := rv
    refine ⟨a, dx, fs, ev, g1.vis _ _ h1, r1.none (by rw [hns]; exact hmn), ha σ Hv1 H1 (w.grow g1) _ fun us Hv2 H2 g2 rs => ?_⟩
    show spP as m φ (v :: (us ++ [])) H2 Q E
    rw [List.append_nil]
    exact ⟨r, Hv2, z, g2.vis, e.symm ▸ .cons ((tObj C sch).mono g2.v rv') rs, hm, fun v Hv3 H3 hy c r3 => q _ _ _ _ ((g1.trans g2).chg.trans c) r3⟩
def SoX (L : ExTab) (B : Bs) (Γ : Cxt) (t : TE) (μ : OTy α) (r : Except Exn α) (W : WX) : Prop := ∀ (σ : L2.St) (Hv H : Hp), Wd B Γ σ Hv H → ∀ Q : VK,
  (∀ y, r = .ok y → ∀ v Hv' H' h', Chg Hv H emp Hv' H' h' → μ.rep Hv' h' v y → Q v H') → (∀ e, r = .error e → ∀ cls d Hv' H', Grow Hv H Hv' H' → ExAt L Hv' e cls d → W cls d σ H') → t σ H Q
theorem sox_call {m : ρ → Option (Except Exn γ)} {t : TA} {z : Except Exn γ} (r : ρ) (hm : m r = some z) (ha : SmA B Γ t (as r)) : SoX L B Γ (tCallSD (spX L as m φ) [] (WE W) t) φ z W := fun σ Hv H w Q q qx =>
  ha σ Hv H w _ fun us Hv1 H1 g1 rs => by
    show spX L as m φ (us ++ []) H1 Q _
    rw [List.append_nil]
    exact ⟨r, Hv1, z, g1.vis, rs, hm, fun y e v Hv2 H2 hy c r2 => q y e _ _ _ _ (g1.chg.trans c) r2, fun e h cls d Hv2 H2 g2 x => qx e h cls d _ _ (g1.trans g2) x⟩
def spI (L : ExTab) (C : Addr) (as : ρ → List As) (m : ρ → Option (Except Exn δ)) (sch : δ → List (Str × OAs)) : Sp := fun vs H Q E => ∃ (p : Addr) (ws : List V) (r : ρ) (Hv h : Hp) (o : Except Exn δ), vs = .ref p :: ws ∧ Same Hv H ∧ Reps Hv ws (as r) ∧ (oPart C []).rep Hv h (.ref p) () ∧ Same h H ∧ Disj h Hv ∧ m r = some o ∧
  (∀ y, o = .ok y → ∀ Hv' H' h', Chg Hv H h Hv' H' h' → (oObj C sch).rep Hv' h' (.ref p) y → Q .non H') ∧ (∀ e, o = .error e → ∀ cls d Hv' H' h', Chg Hv H h Hv' H' h' → ExAt L Hv' e cls d → E cls d H')
theorem spI_len {m : ρ → Option (Except Exn δ)} {sch : δ → List (Str × OAs)} {n : Nat} (hn : ∀ r, (as r).length = n) (h : spI L C as m sch vs H Q E) : vs.length = n + 1 := by
  obtain ⟨p, ws, r, _, _, _, rfl, _, h, _⟩ := h
  rw [List.length_cons, Reps.len h, hn]
theorem part_new {Hv H : Hp} {x dx C : Addr} (vis : Same Hv H) (hx : H x = none) (hd : H dx = none) (ne : dx ≠ x) : Chg Hv H emp Hv (upd (upd H dx (.own x)) x (.ins C dx [])) (upd emp x (.ins C dx [])) ∧ (oPart C []).rep Hv (upd emp x (.ins C dx [])) (.ref x) () := by
  have c1 := (((Grow.newO (o := .own x) vis hd).chg).newL (o := .ins C dx []) (p := x) (by rw [upd_ne (Ne.symm ne)]; exact hx)).1
  exact ⟨c1, x, dx, [], emp, rfl, .nil, rfl, rfl⟩
theorem sox_make {m : ρ → Option (Except Exn δ)} {sch : δ → List (Str × OAs)} {t : TA} {z : Except Exn δ} (r : ρ) (hm : m r = some z) (ha : SmA B Γ t (as r)) : SoX L B Γ (tMakeS C (spI L C as m sch) [] (WE W) t) (oObj C sch) z W := fun σ Hv H w Q q qx =>
  ha σ Hv H w _ fun us Hv1 H1 g1 rs x dx hx hd ne => by
    obtain ⟨c1, r1⟩ := part_new (C := C) g1.vis hx hd ne
    show spI L C as m sch (.ref x :: (us ++ [])) _ _ _
    rw [List.append_nil]
    exact ⟨x, us, r, Hv1, _, z, rfl, c1.vis, rs, r1, c1.sub, c1.hid, hm, fun y e Hv2 H2 h2 c r2 => ⟨rfl, q y e _ _ _ _ (g1.chg.trans (c1.trans c)) r2⟩, fun e h cls d Hv2 H2 h2 c xa => by
      have cc := c1.trans c
      exact qx e h cls d _ _ (g1.trans cc.grow) xa⟩
theorem so_ofX {r : Except Exn α} (h : SoX L B Γ t μ r W) (hr : r = .ok x) : So B Γ t μ x := fun σ Hv H w Q q => h σ Hv H w Q (fun y e v Hv' H' h' c rr => by
  rw [hr] at e
  cases e
  exact q v Hv' H' h' c rr) (fun e z => by rw [hr] at z; cases z)
theorem g_asgX {r : Except Exn α} (f : Frz μ τ) (hi : i < B.n) (he : SoX L B Γ te μ r W) (h1 : ∀ y, r = .ok y → G B u (put i (.fz τ y) Γ) D) (h2 : ∀ e, r = .error e → XOut L B Γ W e) : G B (tSeq (tAsg te (gName i)) u) Γ D := fun σ Hv H w =>
  he σ Hv H w _ (fun y q v Hv1 H1 h' c r1 => h1 y q _ _ H1 ((w.grow c.freeze0.grow).put i hi (f.run r1 c.hid))) (fun e q cls d Hv1 H1 g1 x => h2 e q σ Hv1 H1 cls d (w.grow g1) x)
theorem g_try {tb : WX → TS} {c : Value} {ts : Addr → List (Addr × Obj) → TS} (h : G B (tSeq (tb (wAsV K c i ts Wout { D with nx := u D })) u) Γ D) : G B (tSeq (tTry K c i ts Wout tb) u) Γ D := h
def goneD (i : Nat) (D0 : Ends) : Ends := { nx := fun σ' H' => D0.nx (σ'.set i none) H', rt := D0.rt, bk := fun σ' H' => D0.bk (σ'.set i none) H', ct := fun σ' H' => D0.ct (σ'.set i none) H' }
theorem xout_as {c : Value} {ts : Addr → List (Addr × Obj) → TS} {C : Addr} {ns : List Str} {D0 : Ends} (hk : L (e.1) = some (C, ns)) (hc : PySem.W.exmOne K (.ref C) c = some true) (hi : i < B.n)
    (h : ∀ a pn, G B (ts a pn) (put i (.fz (tEx L) e) Γ) (goneD i D0)) : XOut L B Γ (wAsV K c i ts Wout D0) e := fun σ Hv H cls d w x => by
  obtain ⟨C', ns', h1, h2, h3⟩ := id x
  rw [hk] at h1
  cases h1
  subst h2
  exact ⟨true, hc, fun _ a pn na => h a pn _ (upd Hv a (ExV (.ref C) d a)) _ ((w.grow (Grow.new w.vis na)).put i hi ⟨a, _, d, rfl, upd_same, x.up (same_upd (Same.free w.vis na))⟩), fun z => nomatch z⟩
theorem xout_not {c : Value} {ts : Addr → List (Addr × Obj) → TS} {C : Addr} {ns : List Str} (hk : L (e.1) = some (C, ns)) (hc : PySem.W.exmOne K (.ref C) c = some false) (h : XOut L B Γ Wout e) : XOut L B Γ (wAsV K c i ts Wout D) e := fun σ Hv H cls d w x => by
  obtain ⟨C', ns', h1, h2, h3⟩ := id x
  rw [hk] at h1
  cases h1
  subst h2
  exact ⟨false, hc, (fun z => nomatch z), fun _ => h σ Hv H _ d w x⟩
theorem argC_at {Hv : Hp} {σ : L2.St} {F : Nat → Hp} {vs : List V} {as : List As} (r : Reps Hv vs as) : ∀ {i : Nat}, (∀ k v, vs[k]? = some v → σ[i + k]? = some (some v)) → ∀ j e, (j, e) ∈ argC i as → EntOk σ Hv (F j) j e := by
  induction r with
  | nil => intro i _ j e m; cases m
  | cons ra _ ih =>
    intro i hσ j e m
    rcases List.mem_cons.mp m with h | m
    · cases h
      exact ⟨_, hσ 0 _ rfl, ra⟩
    · exact ih (i := i + 1) (fun k v hk => by rw [show i + 1 + k = i + (k + 1) by omega]; exact hσ (k + 1) v (by simpa using hk)) j e m
theorem rgC_ge : ∀ {rs : List Rg} {k j : Nat} {e : Ent}, (j, e) ∈ rgC k rs → k ≤ j ∧ e.o = true
  | r :: rs, k, j, e, m => by
    rcases List.mem_cons.mp m with h | m
    · cases h
      exact ⟨Nat.le_refl _, rfl⟩
    · have := rgC_ge m
      exact ⟨by omega, this.2⟩
theorem rg_F {σ : L2.St} {h : Hp} {rs : List Rg} (a : RgAll Hv h rs) : ∀ k : Nat, ∃ F : Nat → Hp, (∀ i e, (i, e) ∈ rgC k rs → EntOk σ Hv (F i) i e) ∧ (∀ i, Same (F i) h) ∧ (∀ i j, i ≠ j → Disj (F i) (F j)) ∧ ∀ i, i < k → F i = emp := by
  induction a with
  | nil => exact fun k => ⟨fun _ => emp, fun _ _ m => (nomatch m), fun _ _ _ e => (nomatch e), fun _ _ _ => Disj.empL, fun _ _ => rfl⟩
  | @cons h1 g r rs rr _ d ih =>
    intro k
    obtain ⟨F, f1, f2, f3, f4⟩ := ih (k + 1)
    have bq : ∀ i, i ≠ k → Nat.beq i k = false := fun i hi => by
      cases q : Nat.beq i k with
      | false => rfl
      | true => exact absurd (Nat.eq_of_beq_eq_true q) hi
    have dF : ∀ i, Disj h1 (F i) := fun i b n => by
      cases e : F i b with
      | none => rfl
      | some o =>
        have := f2 i _ _ e
        rw [d b n] at this
        cases this
    refine ⟨fun i => bif Nat.beq i k then h1 else F i, fun i e m => ?_, fun i => ?_, fun i j hij => ?_, fun i hi => ?_⟩
    · rcases List.mem_cons.mp m with q | m
      · cases q
        show EntOk σ Hv (bif Nat.beq k k then h1 else F k) k _
        rw [Nat.beq_refl]
        exact ⟨.ref r.a, rfl, rr⟩
      · show EntOk σ Hv (bif Nat.beq i k then h1 else F i) i e
        rw [bq i (by have := (rgC_ge m).1; omega)]
        exact f1 i e m
    · by_cases hi : i = k
      · subst hi
        show Same (bif Nat.beq i i then h1 else F i) _
        rw [Nat.beq_refl]
        exact same_uniL
      · show Same (bif Nat.beq i k then h1 else F i) _
        rw [bq i hi]
        exact Same.trans (f2 i) (same_uniR d)
    · show Disj (bif Nat.beq i k then h1 else F i) (bif Nat.beq j k then h1 else F j)
      by_cases hi : i = k
      · subst hi
        rw [Nat.beq_refl, bq j (Ne.symm hij)]
        exact dF j
      · rw [bq i hi]
        by_cases hj : j = k
        · subst hj
          rw [Nat.beq_refl]
          exact (dF i).symm
        · rw [bq j hj]
          exact f3 i j hij
    · show (bif Nat.beq i k then h1 else F i) = emp
      rw [bq i (by omega)]
      exact f4 i (by omega)
theorem wd_start {N : List Str} {vs : List V} {as : List As} {h : Hp} {rs : List Rg} (vis : Same Hv H) (r : Reps Hv vs as) (hl : as.length ≤ N.length) (hN : N.length < 1000) (a : RgAll Hv h rs) (s : Same h H) (d : Disj h Hv) :
    Wd ⟨H, Hv, fun b => h b ≠ none, N.length⟩ (argC 0 as ++ rgC 1000 rs) (L2.start N vs) Hv H where
  len := by
    unfold L2.start
    rw [List.length_append, List.length_map, List.length_replicate]
    have := Reps.len r
    show vs.length + (N.length - vs.length) = N.length
    omega
  vis := vis
  s0 := fun _ _ _ e => e
  a0 := fun _ n => n
  v0 := Same.refl _
  nw := fun _ _ _ h => h
  ow := by
    obtain ⟨F, f1, f2, f3, f4⟩ := rg_F (σ := L2.start N vs) a 1000
    refine ⟨F, fun i e m => ?_, fun i e m oo => Same.trans (f2 i) s, fun i e m oo b n => d b (Same.some_ne (f2 i) n), fun i e b m oo n => .inr (Same.some_ne (f2 i) n), fun i j e f m m' _ _ hij => f3 i j hij⟩
    rcases List.mem_append.mp m with m | m
    · refine argC_at r (fun k v hk => ?_) i e m
      have hk' := (List.getElem?_eq_some_iff.mp hk).1
      unfold L2.start
      rw [Nat.zero_add, List.getElem?_append_left (by simpa using hk'), List.getElem?_map, hk]
      rfl
    · exact f1 i e m
theorem RetOk.chg {h h' : Hp} {n : Nat} {Hv' H' : Hp} (r : RetOk ⟨H, Hv, fun b => h b ≠ none, n⟩ Hv' H' h') : Chg Hv H h Hv' H' h' :=
  ⟨fun b o e q => r.s b o (fun z => z e) q, r.a, r.v, r.vis, fun b e q z => r.nw b (fun y => y e) q z, r.sub, r.hid, fun b q => (r.new b q).symm⟩
def outI {δ R : Type} (m : Option (Fl δ Empty R Unit)) : Option (Except Exn δ) := m.bind fun
  | .nx s => some (.ok s)
  | .er e _ => some (.error e)
  | _ => none
abbrev DQ (Q : VK) : Ends := { nx := fun _ H' => Q .non H', rt := Q }
def noC : Empty → Cxt := fun c => nomatch c
def wE (E : XK) : WX := fun cls d _ H => E cls d H
abbrev FinP (L : ExTab) (B0 : Bs) (φ : OTy γ) (Q : VK) (ob : Fl Unit Empty γ Unit) : Prop := Fin L B0 (DQ Q) (fun _ => []) noC (fun y Q => RtG B0 φ [] y Q) (fun _ => []) (fun _ _ _ _ => False) ob
theorem spP_body {m : ρ → Option γ} {mb : ρ → Option (Fl Unit Empty γ Unit)} {N : List Str} {t : TS} (hm : ∀ r, m r = outV (mb r)) (hl : ∀ r, (as r).length ≤ N.length) (hN : N.length < 1000) (h : spP as m φ vs H Q E)
    (hb : ∀ B0 : Bs, B0.n = N.length → ∀ r ob, mb r = some ob → FinP L B0 φ Q ob → G B0 t (argC 0 (as r) ++ []) (DQ Q)) : t (DQ Q) (L2.start N vs) H := by
  obtain ⟨r, Hv, y, vis, rs, e, k⟩ := h
  rw [hm r] at e
  refine bindE e fun ob eo e => hb ⟨H, Hv, fun b => emp b ≠ none, N.length⟩ rfl r ob eo ?_ _ _ _ (wd_start (rs := []) vis rs (hl r) hN .nil (fun _ _ z => nomatch z) Disj.empL)
  cases ob with
  | nx s => cases e
  | bk c => exact c.elim
  | ct c => exact c.elim
  | er e' t => cases e
  | rt z =>
    cases e
    intro v Hv' H' h hy ro d a r
    cases a
    exact k v Hv' H' hy ro.chg r
abbrev FinX (L : ExTab) (B0 : Bs) (φ : OTy γ) (Q : VK) (E : XK) (ob : Fl Unit Empty γ Unit) : Prop := Fin L B0 (DQ Q) (fun _ => []) noC (fun y Q => RtG B0 φ [] y Q) (fun _ => []) (wE E) ob
theorem spX_body {m : ρ → Option (Except Exn γ)} {mb : ρ → Option (Fl Unit Empty γ Unit)} {N : List Str} {t : TS} (hm : ∀ r, m r = outX (mb r)) (hl : ∀ r, (as r).length ≤ N.length) (hN : N.length < 1000) (h : spX L as m φ vs H Q E)
    (hb : ∀ B0 : Bs, B0.n = N.length → ∀ r ob, mb r = some ob → FinX L B0 φ Q E ob → G B0 t (argC 0 (as r) ++ []) (DQ Q)) : t (DQ Q) (L2.start N vs) H := by
  obtain ⟨r, Hv, o, vis, rs, e, k, kx⟩ := h
  rw [hm r] at e
  refine bindE e fun ob eo e => hb ⟨H, Hv, fun b => emp b ≠ none, N.length⟩ rfl r ob eo ?_ _ _ _ (wd_start (rs := []) vis rs (hl r) hN .nil (fun _ _ z => nomatch z) Disj.empL)
  cases ob with
  | nx s => cases e
  | bk c => exact c.elim
  | ct c => exact c.elim
  | er e' t =>
    cases e
    exact XG.out (rs := []) (fun cls d Hv' H' h ro a x => by
      cases a
      exact kx _ rfl cls d Hv' H' ro.chg.grow x) (Le.refl _)
  | rt z =>
    cases e
    intro v Hv' H' h hy ro d a r
    cases a
    exact k _ rfl v Hv' H' hy ro.chg r
abbrev FinI {R : Type} (L : ExTab) (B0 : Bs) (C : Addr) (sch : δ → List (Str × OAs)) (p : Addr) (Q : VK) (E : XK) (ob : Fl δ Empty R Unit) : Prop := Fin L B0 (DQ Q) (fun y => [(1000, .ow (some p) (oObj C sch) y)]) noC (fun _ _ => False) (fun _ => []) (wE E) ob
theorem spI_body {R : Type} {m : ρ → Option (Except Exn δ)} {mb : ρ → Option (Fl δ Empty R Unit)} {sch : δ → List (Str × OAs)} {N : List Str} {t : TS} (hm : ∀ r, m r = outI (mb r)) (hl : ∀ r, (as r).length + 1 ≤ N.length) (hN : N.length < 1000) (h : spI L C as m sch vs H Q E)
    (hb : ∀ B0 : Bs, B0.n = N.length → ∀ p r ob, mb r = some ob → FinI L B0 C sch p Q E ob → G B0 t (((0, .fz tAt p) :: argC 1 (as r)) ++ [(1000, .ow (some p) (oPart C []) ())]) (DQ Q)) : t (DQ Q) (L2.start N vs) H := by
  obtain ⟨p, ws, r, Hv, hh, o, rfl, vis, rs, rp, s, d, e, k, kx⟩ := h
  rw [hm r] at e
  have a : RgAll Hv hh [⟨p, oPart C [], ()⟩] := by
    have z : RgAll Hv (uni hh emp) [⟨p, oPart C [], ()⟩] := .cons rp .nil Disj.empR
    rw [uni_emp] at z
    exact z
  have rs' : Reps Hv (.ref p :: ws) (⟨tAt, p⟩ :: as r) := .cons rfl rs
  refine bindE e fun ob eo e => hb ⟨H, Hv, fun b => hh b ≠ none, N.length⟩ rfl p r ob eo ?_ _ _ _ (wd_start (as := ⟨tAt, p⟩ :: as r) (rs := [⟨p, oPart C [], ()⟩]) vis rs' (by simpa using hl r) hN a s d)
  cases ob with
  | bk c => exact c.elim
  | ct c => exact c.elim
  | rt z => cases e
  | er e' t =>
    cases e
    exact XG.out (rs := []) (fun cls d Hv' H' h ro a x => by
      cases a
      exact kx _ rfl cls d Hv' H' emp ro.chg x) (Le.refl _)
  | nx y =>
    cases e
    intro σ1 Hv1 H1 w
    obtain ⟨F, oo⟩ := w.ow
    have mm : (1000, (Ent.ow (some p) (oObj C sch) y)) ∈ [(1000, (Ent.ow (some p) (oObj C sch) y))] := List.mem_cons_self
    obtain ⟨v, hv, r1⟩ := oo.ent _ _ mm
    have hv : v = .ref p := hv
    subst hv
    exact k y rfl Hv1 H1 (F 1000) (w.retOk (oo.sub _ _ mm rfl) (oo.hid _ _ mm rfl) fun b n => oo.new _ _ b mm rfl n).chg r1
end
end WM
set_option Elab.async false
set_option linter.all false
set_option maxRecDepth 100000
set_option maxHeartbeats 4000000
namespace WM
open PySem PySem.Spec L2 MM WX
section
variable {B B0 B1 : Bs} {Γ : Cxt} {α β γ δ ς ε ρ : Type} {τ : Ty α} {υ : Ty β} {μ : OTy α} {ν : OTy β} {φ : OTy γ} {x : α} {y : β} {t te tp ta tb : TE} {K : PySem.W.Frag} {D : Ends} {σ : L2.St} {Hv H : Hp} {i : Nat} {u : TS} {L : ExTab} {e : Exn} {W Wout : WX} {k : Option Addr} {C : Addr} {f : Str} {a : Addr}
theorem so_eq {x' : α} (e : x = x') (h : So B Γ t μ x) : So B Γ t μ x' := e ▸ h
theorem smt_eq {t : TT} {b b' : Bool} (e : b = b') (h : SmT B Γ t b) : SmT B Γ t b' := e ▸ h
theorem smt_orM {t u : TT} {b r : Bool} {mc : Option Bool} (hm : orO b mc = some r) (h : SmT B Γ t b) (h' : b = false → ∀ c, mc = some c → SmT B Γ u c) : SmT B Γ (tOr t u) r := by
  cases b with
  | true =>
    cases hm
    exact smt_eq (Bool.true_or false) (smt_or (c := false) h fun z => nomatch z)
  | false => exact smt_eq (Bool.false_or r) (smt_or h fun _ => h' rfl r (by simpa [orO] using hm))
theorem sm_ixO {xs : List α} {j : Int} (hm : ixO xs j = some x) (ha : SmL B Γ ta τ xs) (hb : Sm B Γ tb tInt j) : Sm B Γ (tOp (rIxL K) ta tb) τ x := by
  unfold ixO at hm
  by_cases h0 : 0 ≤ j
  · rw [if_pos h0] at hm
    exact sm_ix ha hb h0 hm
  · rw [if_neg h0] at hm
    by_cases h1 : -(xs.length : Int) ≤ j
    · rw [if_pos h1] at hm
      exact sm_ixN ha hb (by omega) h1 hm
    · rw [if_neg h1] at hm
      cases hm
theorem sm_ixScrO {ns : List Int} {j n : Int} (h0 : 0 ≤ j) (hm : ixO ns j = some n) (ha : Sm B Γ ta (tScr K) ns) (hb : Sm B Γ tb tInt j) : Sm B Γ (tOp (rIxL K) ta tb) tInt n := by
  unfold ixO at hm
  rw [if_pos h0] at hm
  exact sm_ixScr ha hb h0 hm
theorem smo_lc0M [Inhabited β] {wi : TI} {g : TG} {te : TE} {vs is : List Nat} {up : α → Cxt → Cxt} {ys : List α} {zs : List β} {f : α → Option β} (hm : mapO f ys = some zs) (hs : SmW B Γ false wi τ ys) (hg : Tgt B g τ up is) (hi : ∀ i ∈ is, i ∈ vs) (hl : ys.length ≤ 1000)
    (he : ∀ x, x ∈ ys → ∀ y, f x = some y → Sm B (up x (dels vs Γ)) te υ y) : So B Γ (tLc wi g tYes te vs) (oL (oF υ)) zs := so_lc0M hs hg hi hl (fun x m y e => So.of (he x m y e)) hm
theorem ov_mulG {i j : Int} (c : MulOk i j) : OpV (rI CMul fun i j => .int (i * j)) tInt tInt tInt i j (i * j) := ov_I (c.imp (fun h => ⟨by have := h.1; omega, by have := h.2; omega⟩) fun h => ⟨by have := h.1; omega, by have := h.2; omega⟩) fun _ => rfl
theorem ov_divG {i j : Int} (c : DivOk j) : OpV (rI CDivW fun i j => .int (i / j)) tInt tInt tInt i j (i / j) := ov_I (divW 200 c.1 (by have := c.2; have : (2 : Nat) ^ 200 = 1606938044258990275541962092341162602522202993782792835301376 := (by decide); omega) (by decide)) fun _ => rfl
theorem ov_powG {i j : Int} (c : PowOk i j) : OpV (rI CPow fun i j => .int (i ^ j.toNat)) tInt tInt tInt i j (i ^ j.toNat) := ov_I ⟨c.1, by have := c.2.1; omega, by have := c.2.2.1; have := c.2.2.2; have : (2 : Nat) ^ 64 = 18446744073709551616 := (by decide); omega⟩ fun _ => rfl
theorem ov_shlG {i j : Int} (c : ShlOk i j) : OpV (rI CShl fun i j => .int (i * 2 ^ j.toNat)) tInt tInt tInt i j (i * 2 ^ j.toNat) := by
  refine ov_I (shlW 1000 ?_ c.1 (by have := c.2.1; omega)) fun _ => rfl
  have h1 := c.2.2.1
  have h2 := c.2.2.2
  have e : ((2 ^ 1000 : Nat) : Int) = (2 : Int) ^ 1000 := by rw [Int.natCast_pow]; rfl
  rw [← e] at h1 h2
  omega
theorem smw_range1G {fr : Bool} {t : TE} {j : Int} (hb : RngOk j) (h : Sm B Γ t tInt j) : SmW B Γ fr (iRng1 (tCons t tNil)) tInt (rangeL 0 j) := smw_range1 h ⟨by have := hb.1; omega, by have := hb.2; omega⟩
theorem sm_isVd {t tc : TE} {cv : Value} {c : V} {Xs : List Nat} (h : Sm B Γ t (tEx L) e) (ht : tc = tC c) (hcv : ∀ u, RelV c u → u = cv) (hall : ∀ (k : Nat) (D : Addr) (ns : List Str), L (k) = some (D, ns) → WX.ExcC K D ∧ PySem.W.kitOne K (.ref D) cv = some (decide (k ∈ Xs))) :
    Sm B Γ (tCB (rIsV K) (tCons t (tCons tc tNil))) tBool (decide (e.1 ∈ Xs)) := fun σ Hv H w Q q => by
  subst ht
  refine h σ Hv H w _ fun v Hv1 H1 g1 ⟨a, cls, d, ev, ha, x⟩ => ?_
  obtain ⟨D, ns, h1, h2, h3⟩ := id x
  subst h2
  obtain ⟨T, hb⟩ := hall _ _ _ h1
  refine ⟨a, D, d, c, cv, _, by rw [ev], g1.vis _ _ ha, fun dd z => ?_, T, hcv, hb, q _ _ _ g1 rfl⟩
  obtain ⟨fs, hf⟩ := x.dic dd z
  exact ⟨fs, g1.vis _ _ hf⟩
theorem xout_both {c : Value} {ts : Addr → List (Addr × Obj) → TS} {D0 : Ends} {Xs : List Nat} (ht : ∀ (k : Nat) (D : Addr) (ns : List Str), L (k) = some (D, ns) → PySem.W.exmOne K (.ref D) c = some (decide (k ∈ Xs))) (hi : i < B.n)
    (h1 : e.1 ∈ Xs → ∀ a pn, G B (ts a pn) (put i (.fz (tEx L) e) Γ) (goneD i D0)) (h2 : ¬ e.1 ∈ Xs → XOut L B Γ Wout e) : XOut L B Γ (wAsV K c i ts Wout D0) e := fun σ Hv H cls d w x => by
  obtain ⟨C, ns, hk, hc, _⟩ := id x
  have hb := ht _ _ _ hk
  by_cases hx : e.1 ∈ Xs
  · exact xout_as hk (by rw [hb, decide_eq_true hx]) hi (h1 hx) σ Hv H cls d w x
  · exact xout_not hk (by rw [hb, decide_eq_false hx]) (h2 hx) σ Hv H cls d w x
section
variable {S S' C R T T' : Type} {Ls' : S' → Cxt} {Lc : C → Cxt} {RR : R → VK → Prop} {Le' : T → Cxt}
theorem fin_er {Ls : S → Cxt} {o : Fl S C R T} {tt : T} (e1 : o = .er e tt) (hf : Fin L B D Ls Lc RR Le' W o) (s : Sub (Le' tt) Γ) : XOut L B Γ W e := by
  subst e1
  exact xo_sub hf s
theorem Fin.gone {Ls : S → Cxt} {o : Fl S C R T} (hf : Fin L B D Ls Lc RR Le' W o) (h1 : ∀ s, del i (Ls s) = Ls s) (h2 : ∀ c, del i (Lc c) = Lc c) : Fin L B (goneD i D) Ls Lc RR Le' W o := by
  cases o with
  | nx s => exact fun σ Hv H w => hf _ Hv H (by have := w.forget i none; rw [h1 s] at this; exact this)
  | bk c => exact fun σ Hv H w => hf _ Hv H (by have := w.forget i none; rw [h2 c] at this; exact this)
  | ct c => exact fun σ Hv H w => hf _ Hv H (by have := w.forget i none; rw [h2 c] at this; exact this)
  | rt r => exact hf
  | er e t => exact hf
theorem g_tryM {c : Value} {ts : Addr → List (Addr × Obj) → TS} {tb : WX → TS} {mb : Option (Fl S C R T')} {hh : Exn → T' → Option (Fl S C R T)} {kk : S → Option (Fl S' C R T)} {o : Fl S' C R T} {Xs : List Nat} {i : Nat} (Ls : S → Cxt) (Lt : T' → Cxt) (hm : thenO (tryO mb hh) kk = some o) (hf : Fin L B D Ls' Lc RR Le' Wout o)
    (hd1 : ∀ s, del i (Ls s) = Ls s) (hd2 : ∀ c, del i (Lc c) = Lc c) (ht : ∀ (k : Nat) (D : Addr) (ns : List Str), L (k) = some (D, ns) → PySem.W.exmOne K (.ref D) c = some (decide (k ∈ Xs))) (hi : i < B.n)
    (hb : ∀ (W : WX) (D' : Ends) (ob : Fl S C R T'), mb = some ob → Fin L B D' Ls Lc RR Lt W ob → G B (tb W) Γ D')
    (hs : ∀ (e : Exn) (tt : T') (a : Addr) (pn : List (Addr × Obj)) (D' : Ends) (ob : Fl S C R T), e.1 ∈ Xs → hh e tt = some ob → Fin L B D' Ls Lc RR Le' Wout ob → G B (ts a pn) (put i (.fz (tEx L) e) (Lt tt)) D')
    (hn : ∀ (e : Exn) (tt : T') (ob : Fl S C R T), ¬ e.1 ∈ Xs → hh e tt = some ob → ∃ t', ob = .er e t' ∧ Sub (Le' t') (Lt tt))
    (hr : ∀ s, kk s = some o → G B u (Ls s) D) : G B (tSeq (tTry K c i ts Wout tb) u) Γ D := by
  refine g_try ?_
  refine thenE hm fun of ef => bindE ef fun ob eb ef => ?_
  have key : ∀ oq : Fl S C R T, tryO mb hh = some oq → Fin L B { D with nx := u D } Ls Lc RR Le' Wout oq := fun oq eq => by
    unfold thenO at hm
    rw [eq] at hm
    cases oq with
    | nx s => exact hr s hm
    | bk c => cases hm; exact hf
    | ct c => cases hm; exact hf
    | rt r => cases hm; exact hf
    | er e t => cases hm; exact hf
  have kf := key of (by unfold tryO; rw [eb]; exact ef)
  show G B (tb _) Γ { D with nx := u D }
  refine hb _ _ ob eb ?_
  cases ob with
  | nx s => cases ef; exact kf
  | bk c => cases ef; exact kf
  | ct c => cases ef; exact kf
  | rt r => cases ef; exact kf
  | er e tt =>
    refine xout_both ht hi (fun hx a pn => hs e tt a pn _ of hx ef (kf.gone hd1 hd2)) fun hx => ?_
    obtain ⟨t', e1, s⟩ := hn e tt of hx ef
    exact fin_er e1 kf s
end
end
end WM
set_option Elab.async false
set_option linter.all false
set_option maxRecDepth 100000
set_option maxHeartbeats 4000000
namespace WM
open PySem PySem.Spec L2 MM WX
section
variable {B B0 B1 : Bs} {Γ : Cxt} {α β γ δ ς ε ρ : Type} {τ : Ty α} {υ : Ty β} {μ : OTy α} {ν : OTy β} {φ : OTy γ} {x : α} {y : β} {t te tp ta tb ti : TE} {K : PySem.W.Frag} {D : Ends} {σ : L2.St} {Hv H : Hp} {i : Nat} {u : TS} {L : ExTab} {e : Exn} {W Wout : WX} {k : Option Addr} {C : Addr} {f : Str} {a : Addr}
theorem g_setI {as : List (Str × OAs)} {ys zs : List β} {n : Int} (ns : List Str) (j : Nat) (hk : ixOf ns f = some j) (c : Cls K C) (nf : NoAttr K C f) (hp : Sm B Γ tp tAt a) (m : get i Γ = some (.ow (some a) (oPart C as) ())) (hns : as.map (·.1) = ns) (hj : as[j]? = some (f, ⟨oL ν, ys⟩))
    (he : So B Γ te ν y) (hi : Sm B Γ ti tInt n) (h0 : 0 ≤ n ∧ n.toNat < ys.length) (hz : ys.set n.toNat y = zs) (h : G B u (put i (.ow (some a) (oPart C (as.set j (f, ⟨oL ν, zs⟩))) ()) Γ) D) : G B (tSeq (tAsg te (gSub (tFld K tp f) ti rSetL)) u) Γ D := fun σ Hv H w => by
  subst hz
  obtain ⟨v, hh, hv, ⟨b, dx, fs, g, ev, rf, nn, eq⟩, s, d, up⟩ := w.open (get_mem m)
  have hv : v = .ref a := hv
  subst hv eq
  cases ev
  obtain ⟨u0, k1, k2, e1, e2, d2, ⟨l, vs, g1, eu, al, n1, q1⟩, up2⟩ := rf.at (by rw [hns]; exact hk) hj
  subst eu e2 q1
  refine he σ Hv H w _ fun v1 Hv1 H1 ge cg r => hp σ Hv1 H1 (w.grow cg.grow) _ fun v2 Hv2 H2 g2 ea => ?_
  have ea : v2 = .ref a := ea
  subst ea
  have hla : l ≠ a := fun z => by
    have : uni (upd g1 l (.lst vs)) k2 l = some (.lst vs) := uni_l upd_same
    rw [z] at this
    rw [← z] at nn
    rw [z, this] at nn
    cases nn
  have ha : H2 a = some (.ins C dx fs) := g2.s _ _ (cg.s _ _ rfl (s _ _ upd_same))
  refine ⟨a, C, dx, fs, .ref l, rfl, ha, c, nf, e1, hi σ Hv2 H2 ((w.grow cg.grow).grow g2) _ fun v3 Hv3 H3 g3 r3 => ?_⟩
  cases r3
  have cc := (cg.par (g2.trans g3).chg).1
  rw [uni_emp] at cc
  have hl0 : upd (uni (upd g1 l (.lst vs)) k2) a (.ins C dx fs) l = some (.lst vs) := by
    rw [upd_ne hla]
    exact uni_l upd_same
  have hl3 : H3 l = some (.lst vs) := cc.s _ _ rfl (s _ _ hl0)
  refine ⟨l, vs, n, n.toNat, rfl, rfl, hl3, ?_, ?_⟩
  · unfold ixN
    have al' : vs.length = ys.length := al.len
    rw [if_pos h0.1, al', if_pos (by omega)]
  · obtain ⟨y0, hy⟩ : ∃ y0, ys[n.toNat]? = some y0 := ⟨ys[n.toNat]'h0.2, List.getElem?_eq_getElem h0.2⟩
    obtain ⟨v0, q1, q2, e3, e4, d3, r2, up3⟩ := al.at hy
    subst e4
    have n2 : k2 l = none := d2 l (by rw [upd_same]; exact fun z => nomatch z)
    have na1 : uni q1 q2 a = none ∧ k2 a = none := by
      have := uni_none.mp nn
      rw [upd_ne (Ne.symm hla)] at this
      exact this
    have whole : upd (uni (upd (uni q1 q2) l (.lst vs)) k2) a (.ins C dx fs) = uni (upd (uni q1 q2) l (.lst vs)) (upd k2 a (.ins C dx fs)) := by
      funext b
      by_cases hb : b = a
      · subst hb
        rw [upd_same, uni_r (by rw [upd_ne (Ne.symm hla)]; exact na1.1), upd_same]
      · rw [upd_ne hb]
        unfold uni
        rw [upd_ne hb]
    have s1 : Same (upd (uni q1 q2) l (.lst vs)) H := fun b o e => s _ _ (by rw [whole]; exact uni_l e)
    have dd1 : Disj (upd (uni q1 q2) l (.lst vs)) Hv := fun b nb => d b (by rw [whole]; exact fun z => nb (uni_none.mp z).1)
    have dk : Disj ge q2 := fun b nb => by
      rcases cc.new b nb with z | z
      · exact absurd rfl z
      · cases e : q2 b with
        | none => rfl
        | some o =>
          have hb : b ≠ l := fun z => by
            rw [z] at e
            rw [(uni_none.mp n1).2] at e
            cases e
          have : upd (uni q1 q2) l (.lst vs) b = some o := by
            rw [upd_ne hb]
            exact same_uniR d3 _ _ e
          rw [s1 _ _ this] at z
          cases z
    have n' : uni ge q2 l = none := by
      refine uni_none.mpr ⟨?_, (uni_none.mp n1).2⟩
      cases e : ge l with
      | none => rfl
      | some o =>
        rcases cc.new l (ne_none_of e) with z | z
        · exact absurd rfl z
        · rw [s1 _ _ upd_same] at z
          cases z
    have cl := Chg.lst (g' := uni ge q2) (ow := .lst (vs.set n.toNat v1)) n1 s1 dd1 cc (fun b o e => by
      rcases uni_some e with z | ⟨_, z⟩
      · exact .inr z
      · exact .inl (same_uniR d3 _ _ z)) n'
    have sk : Same (upd k2 a (.ins C dx fs)) H := fun b o e => s _ _ (by
      rw [whole]
      have dz : Disj (upd (uni q1 q2) l (.lst vs)) (upd k2 a (.ins C dx fs)) := fun b nb => by
        by_cases hb : b = a
        · rw [hb] at nb
          rw [upd_ne (Ne.symm hla)] at nb
          exact absurd na1.1 nb
        · rw [upd_ne hb]
          exact d2 b nb
      exact same_uniR dz _ _ e)
    have dz : Disj (upd (uni q1 q2) l (.lst vs)) (upd k2 a (.ins C dx fs)) := fun b nb => by
      by_cases hb : b = a
      · rw [hb] at nb
        rw [upd_ne (Ne.symm hla)] at nb
        exact absurd na1.1 nb
      · rw [upd_ne hb]
        exact d2 b nb
    have dkv : Disj (upd k2 a (.ins C dx fs)) Hv := fun b nb => d b (by rw [whole]; exact fun z => nb (uni_none.mp z).2)
    obtain ⟨f1, f2, f3⟩ := cl.frame sk dkv dz.symm
    have rep' := up2 Hv3 (upd (uni ge q2) l (.lst (vs.set n.toNat v1))) (ys.set n.toNat y) cc.v ⟨l, _, uni ge q2, rfl, up3 Hv3 ge v1 y cc.v (ν.mono (Same.trans g2.v g3.v) r) dk, n', rfl⟩ (fun b nb => by
      have := f3.symm b nb
      by_cases hb : b = a
      · rw [hb]
        exact na1.2
      · rw [upd_ne hb] at this
        exact this)
    have na' : uni (upd (uni ge q2) l (.lst (vs.set n.toNat v1))) k2 a = none := by
      refine uni_none.mpr ⟨?_, na1.2⟩
      exact f3 a (by rw [upd_same]; exact fun z => nomatch z)
    refine h σ _ _ (up _ () Hv3 _ _ ?_ ⟨a, dx, fs, _, rfl, rep', na', rfl⟩)
    have whole' : upd (uni (upd (uni ge q2) l (.lst (vs.set n.toNat v1))) k2) a (.ins C dx fs) = uni (upd (uni ge q2) l (.lst (vs.set n.toNat v1))) (upd k2 a (.ins C dx fs)) := by
      funext b
      by_cases hb : b = a
      · subst hb
        rw [upd_same, uni_r (uni_none.mp na').1, upd_same]
      · rw [upd_ne hb]
        unfold uni
        rw [upd_ne hb]
    rw [whole, whole']
    refine ⟨fun b o e q => cl.s b o (uni_none.mp e).1 q, cl.a, cl.v, cl.vis, fun b e nb z => cl.nw b (uni_none.mp e).1 nb z, same_uni cl.sub f1, Disj.uniL cl.hid f2, fun b nb => ?_⟩
    rcases uni_ne nb with z | z
    · rcases cl.new b z with q | q
      · exact .inl fun z => q (uni_none.mp z).1
      · exact .inr q
    · exact .inl fun q => z (uni_none.mp q).2
inductive IndFs : List (Str × OAs) → Prop
  | nil : IndFs []
  | cons {α : Type} {n : Str} {μ : OTy α} {x : α} {as : List (Str × OAs)} : Ind μ → IndFs as → IndFs ((n, ⟨μ, x⟩) :: as)
theorem exm_of {K : PySem.W.Frag} {D C : Addr} {b : Bool} (hc : PySem.W.isClsIn K C = true) (hs : PySem.W.subIn K (.ref C) (.type "BaseException") = some true) (ht : PySem.W.typeIn K (.ref C) = some (.type "type")) (p : PySem.W.subIn K (.ref D) (.ref C) = some b) : PySem.W.exmOne K (.ref D) (.ref C) = some b := by
  have e2 : ((PySem.W.clsIn K C).isSome && PySem.W.typeIn K (.ref C) == some (.type "type")) = true := by
    have h2' : (PySem.W.clsIn K C).isSome = true := hc
    rw [h2', ht] <;> rfl
  show (if (PySem.W.subIn K (.ref C) (.type "BaseException") == some true) = true then (if ((PySem.W.clsIn K C).isSome && PySem.W.typeIn K (.ref C) == some (.type "type")) = true then PySem.W.subIn K (.ref D) (.ref C) else none) else none) = some b
  rw [if_pos (by rw [hs] <;> rfl), if_pos e2]
  exact p
end
end WM
set_option Elab.async false
set_option linter.all false
set_option maxRecDepth 100000
set_option maxHeartbeats 4000000
namespace WM
open PySem PySem.Spec L2 MM WX
section
variable {B B0 B1 : Bs} {Γ L : Cxt} {α β γ δ ς ε ρ : Type} {τ : Ty α} {υ : Ty β} {μ : OTy α} {ν : OTy β} {φ : OTy γ} {x : α} {y : β} {t te tp ta tb ti : TE} {K : PySem.W.Frag} {D : Ends} {σ : L2.St} {Hv H : Hp} {i j R : Nat} {u : TS} {k : Option Addr} {C : Addr} {f : Str} {a : Addr}
theorem Wd.split {e : Ent} (w : Wd B ((i, e) :: L) σ Hv H) (oe : e.o = true) (hRi : R ≠ i) (hL : ∀ p ∈ L, p.1 ≠ i ∧ p.1 ≠ R) : ∃ h, EntOk σ Hv h i e ∧ Same h H ∧ Disj h Hv ∧ ∀ h1 h2 e1 e2, h = uni h1 h2 → Disj h1 h2 → EntOk σ Hv h1 R e2 → EntOk σ Hv h2 i e1 → Wd B ((R, e2) :: (i, e1) :: L) σ Hv H := by
  obtain ⟨F, o⟩ := w.ow
  have me : (i, e) ∈ (i, e) :: L := List.mem_cons_self
  refine ⟨F i, o.ent _ _ me, o.sub _ _ me oe, o.hid _ _ me oe, fun h1 h2 e1 e2 eh d r2 r1 => ⟨w.len, w.vis, w.s0, w.a0, w.v0, w.nw, fun n => if n = R then h1 else if n = i then h2 else F n, ?_, ?_, ?_, ?_, ?_⟩⟩
  all_goals
    have s1 : Same h1 (F i) := by rw [eh]; exact same_uniL
    have s2 : Same h2 (F i) := by rw [eh]; exact same_uniR d
    have sH := o.sub _ _ me oe
    have dH := o.hid _ _ me oe
    have nH := fun b => o.new _ _ b me oe
    have FL : ∀ p ∈ L, (if p.1 = R then h1 else if p.1 = i then h2 else F p.1) = F p.1 := fun p hp => by rw [if_neg (hL p hp).2, if_neg (hL p hp).1]
    have ei : (if i = R then h1 else if i = i then h2 else F i) = h2 := by rw [if_neg (Ne.symm hRi), if_pos rfl]
    have eR : (if R = R then h1 else if R = i then h2 else F R) = h1 := if_pos rfl
  · intro n e' m
    rcases List.mem_cons.mp m with q | m
    · cases q
      show EntOk σ Hv (if R = R then h1 else if R = i then h2 else F R) R e2
      rw [eR]
      exact r2
    · rcases List.mem_cons.mp m with q | m
      · cases q
        show EntOk σ Hv (if i = R then h1 else if i = i then h2 else F i) i e1
        rw [ei]
        exact r1
      · have := FL _ m
        dsimp only at this ⊢
        rw [this]
        exact o.ent _ _ (List.mem_cons_of_mem _ m)
  · intro n e' m oo
    rcases List.mem_cons.mp m with q | m
    · cases q
      show Same (if R = R then h1 else if R = i then h2 else F R) H
      rw [eR]
      exact Same.trans s1 sH
    · rcases List.mem_cons.mp m with q | m
      · cases q
        show Same (if i = R then h1 else if i = i then h2 else F i) H
        rw [ei]
        exact Same.trans s2 sH
      · have := FL _ m
        dsimp only at this ⊢
        rw [this]
        exact o.sub _ _ (List.mem_cons_of_mem _ m) oo
  · intro n e' m oo
    rcases List.mem_cons.mp m with q | m
    · cases q
      show Disj (if R = R then h1 else if R = i then h2 else F R) Hv
      rw [eR]
      exact fun b nb => dH b (Same.some_ne s1 nb)
    · rcases List.mem_cons.mp m with q | m
      · cases q
        show Disj (if i = R then h1 else if i = i then h2 else F i) Hv
        rw [ei]
        exact fun b nb => dH b (Same.some_ne s2 nb)
      · have := FL _ m
        dsimp only at this ⊢
        rw [this]
        exact o.hid _ _ (List.mem_cons_of_mem _ m) oo
  · intro n e' b m oo
    rcases List.mem_cons.mp m with q | m
    · cases q
      show (if R = R then h1 else if R = i then h2 else F R) b ≠ none → _
      rw [eR]
      exact fun nb => nH b (Same.some_ne s1 nb)
    · rcases List.mem_cons.mp m with q | m
      · cases q
        show (if i = R then h1 else if i = i then h2 else F i) b ≠ none → _
        rw [ei]
        exact fun nb => nH b (Same.some_ne s2 nb)
      · have := FL _ m
        dsimp only at this ⊢
        rw [this]
        exact o.new _ _ b (List.mem_cons_of_mem _ m) oo
  · intro n n' f1 f2 m1 m2 o1 o2 hn
    have dL : ∀ p ∈ L, p.2.o = true → Disj (F p.1) (F i) := fun p hp op => o.dis _ _ _ _ (List.mem_cons_of_mem _ hp) me op oe (hL p hp).1
    rcases List.mem_cons.mp m1 with q | m1
    · cases q
      rcases List.mem_cons.mp m2 with q | m2
      · cases q
        exact absurd rfl hn
      · rcases List.mem_cons.mp m2 with q | m2
        · cases q
          show Disj (if R = R then h1 else if R = i then h2 else F R) (if i = R then h1 else if i = i then h2 else F i)
          rw [eR, ei]
          exact d
        · have := FL _ m2
          dsimp only at this
          show Disj (if R = R then h1 else if R = i then h2 else F R) (if n' = R then h1 else if n' = i then h2 else F n')
          rw [eR, this]
          exact fun b nb => (dL _ m2 o2).symm b (Same.some_ne s1 nb)
    · rcases List.mem_cons.mp m1 with q | m1
      · cases q
        rcases List.mem_cons.mp m2 with q | m2
        · cases q
          show Disj (if i = R then h1 else if i = i then h2 else F i) (if R = R then h1 else if R = i then h2 else F R)
          rw [eR, ei]
          exact d.symm
        · rcases List.mem_cons.mp m2 with q | m2
          · cases q
            exact absurd rfl hn
          · have := FL _ m2
            dsimp only at this
            show Disj (if i = R then h1 else if i = i then h2 else F i) (if n' = R then h1 else if n' = i then h2 else F n')
            rw [ei, this]
            exact fun b nb => (dL _ m2 o2).symm b (Same.some_ne s2 nb)
      · have t1 := FL _ m1
        dsimp only at t1
        rcases List.mem_cons.mp m2 with q | m2
        · cases q
          show Disj (if n = R then h1 else if n = i then h2 else F n) (if R = R then h1 else if R = i then h2 else F R)
          rw [eR, t1]
          exact Disj.symm fun b nb => (dL _ m1 o1).symm b (Same.some_ne s1 nb)
        · rcases List.mem_cons.mp m2 with q | m2
          · cases q
            show Disj (if n = R then h1 else if n = i then h2 else F n) (if i = R then h1 else if i = i then h2 else F i)
            rw [ei, t1]
            exact Disj.symm fun b nb => (dL _ m1 o1).symm b (Same.some_ne s2 nb)
          · have t2 := FL _ m2
            dsimp only at t2
            show Disj (if n = R then h1 else if n = i then h2 else F n) (if n' = R then h1 else if n' = i then h2 else F n')
            rw [t1, t2]
            exact o.dis _ _ _ _ (List.mem_cons_of_mem _ m1) (List.mem_cons_of_mem _ m2) o1 o2 hn
structure IsRef (ν : OTy β) : Prop where
  run : ∀ {Hv h : Hp} {v : V} {y : β}, ν.rep Hv h v y → ∃ a, v = .ref a
end
end WM
set_option Elab.async false
set_option linter.all false
set_option maxRecDepth 100000
set_option maxHeartbeats 4000000
namespace WM
open PySem PySem.Spec L2 MM WX
structure KK (κ : Type) where
  K' : Type
  dec : DecidableEq K'
  ob : List (K' × V) → HO
  enc : κ → K'
  inj : ∀ a b, enc a = enc b → a = b
  kt : Ty κ
  get_ : ∀ {Hv H : Hp} {a : Addr} {kvs : List (K' × V)} {k : κ} {y : V}, kt.rep Hv y k → Same Hv H → H a = some (ob kvs) → DGet H a y (@valV _ dec kvs (enc k))
  put_ : ∀ {Hv H : Hp} {a : Addr} {kvs : List (K' × V)} {k : κ} {y v : V}, kt.rep Hv y k → Same Hv H → H a = some (ob kvs) → kvs.length < sizeLine → DPut H a y v (upd H a (ob (@putK _ dec kvs (enc k) v)))
  isd : ∀ {H : Hp} {a : Addr} {kvs : List (K' × V)}, H a = some (ob kvs) → IsD H a
def kInt : KK Int := ⟨Key, inferInstance, .dK, Sum.inl, fun a b e => Sum.inl.inj e, tInt, fun {Hv H a kvs k y} r s e => by
  have r : y = .int k := r
  subst r
  exact DGet.k (k := .inl k) e, fun {Hv H a kvs k y v} r s e hl => by
  have r : y = .int k := r
  subst r
  exact DPut.k (k := .inl k) e hl, fun e => .inl ⟨_, .inl e⟩⟩
section
variable {B B0 B1 : Bs} {Γ L : Cxt} {α β γ κ : Type} {τ : Ty α} {υ : Ty β} {μ : OTy α} {ν : OTy β} {φ : OTy γ} {x : α} {y : β} {t te tp ta tb ti : TE} {K : PySem.W.Frag} {D : Ends} {σ : L2.St} {Hv H : Hp} {i j R : Nat} {u : TS} {k : Option Addr} {k0 : κ} {a : Addr}
variable [DecidableEq κ]
def DP (E : KK κ) (υ : Ty β) (Hv : Hp) (kvs : List (E.K' × V)) (xs : List (κ × β)) : Prop := Paired (fun p x => p.1 = E.enc x.1 ∧ υ.rep Hv p.2 x.2) kvs xs
theorem DP.up {E : KK κ} {Hv Hv' : Hp} (s : Same Hv Hv') : ∀ {kvs : List (E.K' × V)} {xs : List (κ × β)}, DP E υ Hv kvs xs → DP E υ Hv' kvs xs
  | _, _, .nil => .nil
  | _, _, .cons a t => .cons ⟨a.1, υ.mono s a.2⟩ (DP.up s t)
theorem DP.get {E : KK κ} : ∀ {kvs : List (E.K' × V)} {xs : List (κ × β)}, DP E υ Hv kvs xs → (∀ y, dget xs k0 = some y → ∃ v, @valV _ E.dec kvs (E.enc k0) = some v ∧ υ.rep Hv v y) ∧ (dget xs k0 = none → @valV _ E.dec kvs (E.enc k0) = none)
  | _, _, .nil => ⟨fun y h => by simp [dget] at h, fun _ => rfl⟩
  | p :: kvs, x :: xs, .cons q t => by
    obtain ⟨h1, h2⟩ := DP.get t
    letI := E.dec
    by_cases e : x.1 = k0
    · have e' : p.1 = E.enc k0 := by rw [q.1, e]
      refine ⟨fun y h => ⟨p.2, valV_pos e', ?_⟩, fun h => ?_⟩
      · simp [dget, List.find?_cons, e] at h
        rw [← h]
        exact q.2
      · simp [dget, List.find?_cons, e] at h
    · have e' : ¬ p.1 = E.enc k0 := fun z => e (E.inj _ _ (q.1.symm.trans z))
      have ed : dget (x :: xs) k0 = dget xs k0 := by simp [dget, List.find?_cons, e]
      rw [ed, valV_neg e']
      exact ⟨h1, h2⟩
theorem DP.map {E : KK κ} {v : V} (r : υ.rep Hv v y) : ∀ {kvs : List (E.K' × V)} {xs : List (κ × β)}, DP E υ Hv kvs xs → DP E υ Hv (kvs.map fun kv => @ite _ (kv.1 = E.enc k0) (E.dec _ _) (kv.1, v) kv) (xs.map fun p => if p.1 = k0 then (p.1, y) else p)
  | _, _, .nil => .nil
  | p :: kvs, x :: xs, .cons q t => by
    refine .cons ?_ (DP.map r t)
    letI := E.dec
    by_cases e : x.1 = k0
    · have e' : p.1 = E.enc k0 := by rw [q.1, e]
      dsimp only
      rw [if_pos e, if_pos e']
      exact ⟨q.1, r⟩
    · have e' : ¬ p.1 = E.enc k0 := fun z => e (E.inj _ _ (q.1.symm.trans z))
      dsimp only
      rw [if_neg e, if_neg e']
      exact q
theorem dget_any {d : List (κ × β)} : (d.any fun p => decide (p.1 = k0)) = (dget d k0).isSome := by
  induction d with
  | nil => rfl
  | cons p d ih =>
    rw [List.any_cons, ih]
    by_cases e : p.1 = k0
    · simp [dget, List.find?_cons, e]
    · simp [dget, List.find?_cons, e]
theorem paired_snoc {α β : Type} {F : α → β → Prop} {l : List α} {m : List β} {a : α} {b : β} (p : Paired F l m) (q : F a b) : Paired F (l ++ [a]) (m ++ [b]) := paired_app p (.cons q .nil)
theorem DP.put {E : KK κ} {v : V} {kvs : List (E.K' × V)} {xs : List (κ × β)} (p : DP E υ Hv kvs xs) (r : υ.rep Hv v y) : DP E υ Hv (@putK _ E.dec kvs (E.enc k0) v) (dput xs k0 y) := by
  letI := E.dec
  unfold putK dput
  have h := DP.get (k0 := k0) p
  rw [valV_any, dget_any]
  cases e : dget xs k0 with
  | none =>
    rw [h.2 e, if_neg (by simp), if_neg (by simp)]
    exact paired_snoc p ⟨rfl, r⟩
  | some z =>
    obtain ⟨v', e1, _⟩ := h.1 z e
    rw [e1]
    simp only [Option.isSome_some, if_true]
    exact p.map r
variable {E : KK κ} {xs : List (κ × β)}
end
end WM
set_option Elab.async false
set_option linter.all false
set_option maxRecDepth 100000
set_option maxHeartbeats 4000000
namespace WM
open PySem PySem.Spec L2 MM WX
section
variable {B : Bs} {Γ : Cxt} {α β : Type} {τ : Ty α} {K : PySem.W.Frag}
def eq_optI {K : PySem.W.Frag} : EqT K (tOpt tInt) 0 := ⟨fun | none => .none | some x => .int x, fun {H v x} h => by
  cases x with
  | none =>
    have h : v = .non := h
    subst h
    exact .non
  | some y =>
    have h : v = .int y := h.2
    subst h
    exact .int y, fun x => by cases x <;> simp [PyData.canLay0], fun x => by cases x <;> simp [PyData.depth], fun x y => by
  cases x with
  | none => cases y <;> simp [PyData.eqv]
  | some a =>
    cases y with
    | none => simp [PyData.eqv]
    | some b =>
      show (a == b) = _
      by_cases e : a = b <;> simp [e]⟩
end
end WM
set_option linter.all false
namespace MM
open PySem
inductive Tr
  | i (n : Int)
  | s (x : Str)
  | l (xs : List Int)
end MM
set_option linter.all false
set_option maxRecDepth 100000
namespace Pm
open WM MM
def mK_doubled_0 (s_ : Int) : Option (Fl (Unit) (Empty) Int Unit) :=
some (.rt s_)
def mb_doubled (one : Int) (rule : Int) (last : Int) : Option (Fl Unit Empty Int Unit) :=
guardO (ShlOk one (1 : Int)) (
letO (one * 2 ^ (1 : Int).toNat) fun one1 =>
thenO (if (decide (last < one1)) then (
letO (PySem.Builtin.bitXor one1 rule) fun one2 =>
some (.nx one2)) else (
some (.nx one1))) mK_doubled_0)
def m_doubled (one : Int) (rule : Int) (last : Int) : Option Int := outV (mb_doubled one rule last)
def mL_walk_of_0 (rule : Int) (last : Int) (s_1 : (List Int) × Int) : Option (Fl ((List Int) × Int) ((List Int) × Int) (List Int) Unit) :=
guardO ((s_1.1).length < 16000000) (
letO (s_1.1 ++ [s_1.2]) fun found1 =>
(m_doubled s_1.2 rule last).bind fun y1 =>
some (.nx (found1, y1)))
def mK_walk_of_0 (s_2 : (List Int) × Int) : Option (Fl (Unit) (Empty) (List Int) Unit) :=
some (.rt s_2.1)
def mb_walk_of (rule : Int) (last : Int) : Option (Fl Unit Empty (List Int) Unit) :=
letO ([1] : List Int) fun found =>
(m_doubled (1 : Int) rule last).bind fun y =>
thenO (whileO (fun (s_ : (List Int) × Int) => some (!decide (s_.2 = (1 : Int)))) (mL_walk_of_0 rule last) 10000 (found, y)) mK_walk_of_0
def m_walk_of (rule : Int) (last : Int) : Option (List Int) := outV (mb_walk_of rule last)
structure FieldV where
  rule : Int
  width : Int
  last : Int
  powers : (List Int)
  logs : (List Int)
deriving Inhabited, DecidableEq
def mL_Field___init___0 (x : (Int × Int)) (s_ : (List Int)) : Option (Fl ((List Int)) ((List Int)) Unit Unit) :=
guardO (0 ≤ x.2 ∧ (x.2).toNat < (s_).length) (
letO ((s_).set (x.2).toNat x.1) fun logs1 =>
some (.nx logs1))
def mK_Field___init___0 (rule : Int) (width : Int) (last : Int) (y : (List Int)) (s_1 : (List Int)) : Option (Fl (FieldV) (Empty) Unit Unit) :=
letO (⟨rule, width, last, y, s_1⟩ : FieldV) fun ob => some (.nx ob)
def mb_Field___init__ (rule : Int) : Option (Fl FieldV Empty Unit Unit) :=
if ((!((decide ((16 : Int) ≤ rule)) && (decide (rule < (512 : Int))))) || (decide ((rule % (2 : Int)) = (0 : Int)))) then (
some (.er (1, [rule, (0 : Int)]) ())) else
letO (((PySem.Builtin.Int.intBits rule : Nat) : Int) - (1 : Int)) fun width =>
guardO (ShlOk (1 : Int) width) (
letO (((1 : Int) * 2 ^ width.toNat) - (1 : Int)) fun last =>
(m_walk_of rule last).bind fun y =>
if (decide (((y).length : Int) < last)) then (
some (.er (1, [rule, ((y).length : Int)]) ())) else
guardO (0 ≤ (last + (1 : Int)) ∧ (last + (1 : Int)) ≤ 1000) (
letO (List.replicate ((last + (1 : Int))).toNat (0 : Int)) fun logs =>
thenO (forO (mL_Field___init___0) (enumL y) logs) (mK_Field___init___0 rule width last y)))
def m_Field___init__ (rule : Int) : Option (Except MM.Exn FieldV) := outI (mb_Field___init__ rule)
structure BlocksV where
  field : FieldV
  many : Int
  limit : Int
  ones : Int
deriving Inhabited, DecidableEq
def mb_Blocks___init__ (field : FieldV) (many : Int) : Option (Fl BlocksV Empty Unit Unit) :=
if (!((decide ((1 : Int) ≤ many)) && (decide (many ≤ (16 : Int))))) then (
some (.er (4, []) ())) else
guardO (MulOk field.width many) (
guardO (ShlOk (1 : Int) (field.width * many)) (
letO ((1 : Int) * 2 ^ (field.width * many).toNat) fun limit =>
guardO (DivOk field.last) (
letO ((limit - (1 : Int)) / field.last) fun ones =>
letO (⟨field, many, limit, ones⟩ : BlocksV) fun ob => some (.nx ob))))
def m_Blocks___init__ (field : FieldV) (many : Int) : Option (Except MM.Exn BlocksV) := outI (mb_Blocks___init__ field many)
def mb_Blocks_good (self : BlocksV) (block : Int) : Option (Fl Unit Empty Bool Unit) :=
some (.rt ((decide ((0 : Int) ≤ block)) && (decide (block < self.limit))))
def m_Blocks_good (self : BlocksV) (block : Int) : Option Bool := outV (mb_Blocks_good self block)
structure ShapeV where
  data : Int
  planks : Int
  stripes : Int
  size : Int
  turns : (List (List Int))
deriving Inhabited, DecidableEq
structure CodeV where
  blocks : BlocksV
  weights : (List (List Int))
  data : Int
  sums : Int
  roles : Int
deriving Inhabited, DecidableEq
def mb_cell_at (script : (List Int)) (k : Int) : Option (Fl Unit Empty Int Unit) :=
if (decide (k < ((script).length : Int))) then (
guardO (0 ≤ k) (
(ixO script k).bind fun y =>
some (.rt y))) else
some (.rt (0 : Int))
def m_cell_at (script : (List Int)) (k : Int) : Option Int := outV (mb_cell_at script k)
end Pm
set_option Elab.async false
set_option linter.all false
set_option maxRecDepth 100000
set_option maxHeartbeats 4000000
namespace WM
open PySem PySem.Spec PySem.SeqAt PyProof.Rows L2 MM WX
section
variable {B : Bs} {Γ : Cxt} {K : PySem.W.Frag}
end
end WM
set_option Elab.async false
set_option linter.all false
set_option maxRecDepth 100000
set_option maxHeartbeats 4000000
namespace WM
open PySem PySem.Spec L2 MM WX
section
variable {B B0 : Bs} {Γ : Cxt} {ρ γ δ : Type} {μ : OTy δ} {φ : OTy γ} {as : ρ → List As} {mx : ρ → δ} {Q : VK} {E : XK} {L : ExTab} {Hv H : Hp} {D : Ends} {u : TS} {i : Nat}
theorem OAll.take {α : Type} {μ : OTy α} {Hv g : Hp} {vs : List V} {xs : List α} (a : OAll μ Hv g vs xs) : ∀ k : Nat, ∃ g', OAll μ Hv g' (vs.take k) (xs.take k) ∧ Same g' g := by
  induction a with
  | nil => exact fun k => ⟨emp, by rw [List.take_nil, List.take_nil]; exact .nil, fun b o e => nomatch e⟩
  | @cons h g v x vs xs r a d ih =>
    intro k
    cases k with
    | zero => exact ⟨emp, .nil, fun b o e => nomatch e⟩
    | succ k =>
      obtain ⟨g', a', s'⟩ := ih k
      have d' : Disj h g' := fun b n => by
        cases q : g' b with
        | none => rfl
        | some o => rw [s' b o q |>.symm.trans (d b n)]
      refine ⟨uni h g', .cons r a' d', fun b o e => ?_⟩
      unfold uni at e ⊢
      cases q : h b with
      | none =>
        rw [q] at e
        exact s' b o e
      | some o' =>
        rw [q] at e
        exact e
end
end WM
set_option Elab.async false
set_option linter.all false
set_option maxRecDepth 100000
set_option maxHeartbeats 4000000
namespace WM
open PySem PySem.Spec L2 MM WX
section
variable {B B0 : Bs} {Γ : Cxt} {α β γ δ ρ ε ς : Type} {μ : OTy α} {ν : OTy β} {φ : OTy γ} {τ : Ty α} {υ : Ty γ} {as : ρ → List As} {rg : ρ → List Rg} {rgo : ρ → ς → List Rg} {rge : ρ → ε → List Rg} {Q : VK} {E : XK} {L : ExTab} {Hv H Hv' H' h h' : Hp} {D : Ends} {u : TS} {i : Nat} {σ : L2.St} {W : WX} {te : TE} {x : α} {y : β}
theorem Wd.multi {Δ : Cxt} {σ' : L2.St} (w : Wd B Γ σ Hv H) (F : Nat → Hp) (o : OwF B Γ σ Hv H F) (N : Nat → Bool) (F' : Nat → Hp) (hl : σ'.length = B.n) (hσ : ∀ j e, (j, e) ∈ Δ → N j = false → σ'[j]? = σ[j]?)
    (hF : ∀ j e, (j, e) ∈ Γ → N j = false → e.o = true → Disj (F j) h) (hn : ∀ b, h b ≠ none → B.H0 b = none ∨ B.own b) (c : Chg Hv H h Hv' H' h')
    (hΔ : ∀ j e, (j, e) ∈ Δ → (N j = false ∧ (j, e) ∈ Γ) ∨ (N j = true ∧ EntOk σ' Hv' (F' j) j e ∧ Same (F' j) h'))
    (hd : ∀ i j, N i = true → N j = true → i ≠ j → Disj (F' i) (F' j)) : Wd B Δ σ' Hv' H' where
  len := hl
  vis := c.vis
  s0 := fun b ob n e => c.s b ob (by
    cases q : h b with
    | none => rfl
    | some oo =>
      rcases hn b (ne_none_of q) with z | z
      · rw [z] at e
        cases e
      · exact absurd z n) (w.s0 b ob n e)
  a0 := fun b n => c.a b (w.a0 b n)
  v0 := Same.trans w.v0 c.v
  nw := fun b no n z => c.nw b (by
    cases q : h b with
    | none => rfl
    | some oo =>
      rcases hn b (ne_none_of q) with z | z
      · exact absurd z n
      · exact absurd z no) (w.a0 b n) (w.nw b no n z)
  ow := by
    have fr : ∀ j e, (j, e) ∈ Γ → N j = false → e.o = true → Same (F j) H' ∧ Disj (F j) Hv' ∧ Disj (F j) h' := fun j e m nj oo => c.frame (o.sub j e m oo) (o.hid j e m oo) (hF j e m nj oo)
    refine ⟨fun j => bif N j then F' j else F j, fun j e m => ?_, fun j e m oo => ?_, fun j e m oo => ?_, fun j e b m oo n => ?_, fun j k e f m1 m2 o1 o2 hjk => ?_⟩
    · rcases hΔ j e m with ⟨nj, m'⟩ | ⟨nj, ok, _⟩
      · simp only [nj, cond_false]
        exact ((o.ent j e m').up c.v).st (hσ j e m nj)
      · simp only [nj, cond_true]
        exact ok
    · rcases hΔ j e m with ⟨nj, m'⟩ | ⟨nj, _, s⟩
      · simp only [nj, cond_false]
        exact (fr j e m' nj oo).1
      · simp only [nj, cond_true]
        exact Same.trans s c.sub
    · rcases hΔ j e m with ⟨nj, m'⟩ | ⟨nj, _, s⟩
      · simp only [nj, cond_false]
        exact (fr j e m' nj oo).2.1
      · simp only [nj, cond_true]
        exact fun b n => c.hid b (Same.some_ne s n)
    · rcases hΔ j e m with ⟨nj, m'⟩ | ⟨nj, _, s⟩
      · simp only [nj, cond_false] at n
        exact o.new j e b m' oo n
      · simp only [nj, cond_true] at n
        rcases c.new b (Same.some_ne s n) with z | z
        · exact hn b z
        · refine .inl ?_
          cases q : B.H0 b with
          | none => rfl
          | some ob => exact absurd z (w.a0 b (ne_none_of q))
    · rcases hΔ j e m1 with ⟨nj, m1'⟩ | ⟨nj, _, s1⟩
      · rcases hΔ k f m2 with ⟨nk, m2'⟩ | ⟨nk, _, s2⟩
        · simp only [nj, nk, cond_false]
          exact o.dis j k e f m1' m2' o1 o2 hjk
        · simp only [nj, nk, cond_false, cond_true]
          exact fun b n => by
            have z := (fr j e m1' nj o1).2.2 b n
            cases q : F' k b with
            | none => rfl
            | some ob => rw [s2 _ _ q] at z; cases z
      · rcases hΔ k f m2 with ⟨nk, m2'⟩ | ⟨nk, _, s2⟩
        · simp only [nj, nk, cond_false, cond_true]
          exact Disj.symm fun b n => by
            have z := (fr k f m2' nk o2).2.2 b n
            cases q : F' j b with
            | none => rfl
            | some ob => rw [s1 _ _ q] at z; cases z
        · simp only [nj, nk, cond_true]
          exact hd j k nj nk hjk
end
end WM
set_option Elab.async false
set_option linter.all false
set_option maxRecDepth 100000
set_option maxHeartbeats 4000000
namespace WM
open PySem PySem.Spec L2 MM WX
section
variable {B B0 : Bs} {Γ : Cxt} {α β γ δ ρ ε ς : Type} {μ : OTy α} {ν : OTy β} {φ : OTy γ} {τ : Ty α} {υ : Ty γ} {as : ρ → List As} {rg : ρ → List Rg} {rgo : ρ → ς → List Rg} {rge : ρ → ε → List Rg} {Q : VK} {E : XK} {L : ExTab} {Hv H Hv' H' h h' : Hp} {D : Ends} {u : TS} {i : Nat} {σ : L2.St} {W : WX} {te : TE} {x : α} {y : β} {ks : List Nat} {t : TA}
section
variable {r : Except (Exn × ε) (γ × ς)} {Γo : ς → Cxt} {Γe : ε → Cxt}
variable {z : γ} {Γ' : Cxt}
end
end
end WM
set_option Elab.async false
set_option linter.all false
set_option maxRecDepth 100000
set_option maxHeartbeats 4000000
namespace WM
open PySem PySem.Spec L2 MM WX
section
variable {B B0 : Bs} {Γ : Cxt} {α β γ δ ρ ε ς : Type} {μ : OTy α} {ν : OTy β} {φ : OTy γ} {τ : Ty α} {υ : Ty γ} {as : ρ → List As} {rg : ρ → List Rg} {rgo : ρ → ς → List Rg} {rge : ρ → ε → List Rg} {Q : VK} {E : XK} {L : ExTab} {Hv H Hv' H' h h' : Hp} {D : Ends} {u : TS} {i : Nat} {σ : L2.St} {W : WX} {te : TE} {x : α} {y : β} {ks : List Nat} {t : TA} {K : PySem.W.Frag} {C : Addr} {sch : δ → List (Str × OAs)}
end
end WM
namespace WM
open PySem PySem.Spec L2 MM WX
section
variable {B B0 : Bs} {Γ : Cxt} {α β γ δ ρ ε ς : Type} {μ : OTy α} {ν : OTy β} {φ : OTy γ} {τ : Ty α} {υ : Ty γ} {as : ρ → List As} {rg : ρ → List Rg} {rgo : ρ → ς → List Rg} {rge : ρ → ε → List Rg} {Q : VK} {E : XK} {L : ExTab} {Hv H Hv' H' h h' : Hp} {D : Ends} {u : TS} {i j : Nat} {σ : L2.St} {W : WX} {te : TE} {x : α} {y : β} {ks : List Nat} {t : TA} {K : PySem.W.Frag} {C a : Addr} {sch : δ → List (Str × OAs)}
end
end WM
namespace WM
open PySem PySem.Spec L2 MM WX
section
variable {B : Bs} {Γ : Cxt} {γ ε ς : Type} {φ : OTy γ} {υ : Ty γ} {L : ExTab} {Hv H : Hp} {D : Ends} {u : TS} {i : Nat} {σ : L2.St} {W : WX} {te : TE} {r : Except (Exn × ε) (γ × ς)} {Γo : ς → Cxt} {Γe : ε → Cxt}
end
end WM
namespace WM
open PySem PySem.Spec L2
end WM
namespace WM
open PySem PySem.Spec L2
theorem g_norm {B : Bs} {Γ : Cxt} {t : TS} {D : Ends} (Γ' : Cxt) (h : G B t Γ' D) (s : Sub Γ' Γ) : G B t Γ D := fun σ Hv H w => h σ Hv H (w.sub s.mem)
end WM
set_option Elab.async false
set_option linter.all false
set_option maxRecDepth 100000
set_option maxHeartbeats 4000000
namespace WM
open PySem PySem.Spec L2 MM WX
section
variable {B B0 : Bs} {Γ : Cxt} {α β γ δ ρ ε ς : Type} {μ : OTy α} {ν : OTy β} {φ : OTy γ} {τ : Ty α} {υ : Ty γ} {as : ρ → List As} {Q : VK} {E : XK} {L : ExTab} {Hv H Hv' H' h h' : Hp} {D : Ends} {u : TS} {i j k : Nat} {σ : L2.St} {W : WX} {te : TE} {x : α} {y : β} {ks : List Nat} {t : TA} {K : PySem.W.Frag} {v : V}
variable {R : V → L2.St → Hp → Prop} {RA : List V → L2.St → Hp → Prop}
theorem Wd.conv {e e' : Ent} {σ' : L2.St} (w : Wd B Γ σ Hv H) (m : get i Γ = some e) (ho : e.o = true) (hl : σ'.length = σ.length) (hσ : ∀ l, l ≠ k → σ'[l]? = σ[l]?) (hc : ∀ h, EntOk σ Hv h i e → EntOk σ' Hv h k e') : Wd B (WM.put k e' (WM.del i Γ)) σ' Hv H := by
  obtain ⟨F, o⟩ := w.ow
  have m' := get_mem m
  refine w.multi (h := F i) (h' := F i) F o (fun j => decide (j = i) || decide (j = k)) (fun j => if j = k then F i else emp) (by rw [hl]; exact w.len) (fun l f ml nl => hσ l (by simp at nl; exact nl.2)) (fun j f mj nj oo => o.dis j i f e mj m' oo ho (by simp at nj; exact nj.1)) (fun b n => o.new i e b m' ho n) ⟨fun _ _ _ e => e, fun _ n => n, Same.refl _, w.vis, fun _ _ _ z => z, o.sub _ _ m' ho, o.hid _ _ m' ho, fun _ n => .inl n⟩ (fun j f mj => ?_) fun a b na nb hab => ?_
  · rcases put_mem mj with ⟨rfl, rfl⟩ | ⟨hj, mj⟩
    · refine .inr ⟨by simp, ?_, ?_⟩
      · simp only [if_true]
        exact hc _ (o.ent _ _ m')
      · simp only [if_true]
        exact Same.refl _
    · obtain ⟨hi, mj⟩ := del_mem mj
      exact .inl ⟨by simp [hj, hi], mj⟩
  · by_cases ha : a = k
    · have hb : b ≠ k := fun q => hab (ha.trans q.symm)
      simp only [if_neg hb]
      exact Disj.empR
    · simp only [if_neg ha]
      exact Disj.empL
inductive OVs (Hv : Hp) : Hp → List V → List OAs → Prop
  | nil : OVs Hv emp [] []
  | cons {h g : Hp} {v : V} {vs : List V} {a : OAs} {as : List OAs} : a.μ.rep Hv h v a.x → OVs Hv g vs as → Disj h g → OVs Hv (uni h g) (v :: vs) (a :: as)
theorem OVs.up {Hv Hv' h : Hp} {vs : List V} {as : List OAs} (s : Same Hv Hv') (a : OVs Hv h vs as) : OVs Hv' h vs as := by
  induction a with
  | nil => exact .nil
  | cons r _ d ih => exact .cons (OTy.mono _ s r) ih d
theorem OVs.len {Hv h : Hp} {vs : List V} {as : List OAs} (a : OVs Hv h vs as) : vs.length = as.length := by
  induction a with
  | nil => rfl
  | cons _ _ _ ih => simp [ih]
def TvAt (Γ : Cxt) : List Nat → List V → List OAs → Prop
  | [], [], [] => True
  | k :: ks, v :: vs, a :: as => get k Γ = some (.tv v a.μ a.x) ∧ TvAt Γ ks vs as
  | _, _, _ => False
theorem TvAt.len : ∀ {ks : List Nat} {vs : List V} {as : List OAs}, TvAt Γ ks vs as → vs.length = ks.length
  | [], [], [], _ => rfl
  | _ :: _, _ :: _, _ :: _, ⟨_, h⟩ => by simp [TvAt.len h]
inductive FrzVs : List OAs → List As → Prop
  | nil : FrzVs [] []
  | cons {α : Type} {μ : OTy α} {τ : Ty α} {x : α} {as : List OAs} {bs : List As} : Frz μ τ → FrzVs as bs → FrzVs (⟨μ, x⟩ :: as) (⟨τ, x⟩ :: bs)
theorem OVs.frz {as : List OAs} {bs : List As} (f : FrzVs as bs) : ∀ {Hv h : Hp} {vs : List V}, OVs Hv h vs as → Disj h Hv → Reps (uni Hv h) vs bs := by
  induction f with
  | nil =>
    intro Hv h vs a d
    cases a
    exact .nil
  | cons f _ ih =>
    intro Hv h vs a d
    cases a with
    | @cons h1 g v vs _ _ r a d1 =>
      refine .cons (Ty.mono _ ?_ (f.run r d.l)) ((ih a d.r).up ?_)
      · rw [← uni_assoc]
        exact same_uniL
      · rw [uni_comm d1, ← uni_assoc]
        exact same_uniL
theorem OVs.at {Hv : Hp} : ∀ {k : Nat} {h : Hp} {vs : List V} {as : List OAs} {a : OAs}, OVs Hv h vs as → as[k]? = some a → ∃ v h1 h2, vs[k]? = some v ∧ h = uni h1 h2 ∧ Disj h1 h2 ∧ a.μ.rep Hv h1 v a.x ∧
    ∀ Hv' h1' (b : OAs), Same Hv Hv' → b.μ.rep Hv' h1' v b.x → Disj h1' h2 → OVs Hv' (uni h1' h2) vs (as.set k b)
  | 0, _, _, _, a, .cons (h := h) (g := g) (v := v) r al d, e => by
    simp at e
    subst e
    exact ⟨v, h, g, rfl, rfl, d, r, fun Hv' h1' b s r' d' => .cons r' (al.up s) d'⟩
  | k + 1, _, _, _, a, .cons (h := h) (g := g) r al d, e => by
    obtain ⟨v, h1, h2, e1, e2, d2, r2, up⟩ := OVs.at (k := k) al (by simpa using e)
    subst e2
    have d1 : Disj h h1 := d.symm.l.symm
    refine ⟨v, h1, uni h h2, by simpa using e1, ?_, Disj.uniR d1.symm d2, r2, fun Hv' h1' b s r' d' => ?_⟩
    · rw [← uni_assoc, uni_comm d1, uni_assoc]
    · have dd : Disj h1' h := d'.symm.l.symm
      have : uni h1' (uni h h2) = uni h (uni h1' h2) := by rw [← uni_assoc, uni_comm dd, uni_assoc]
      rw [this]
      exact .cons (OTy.mono _ s r) (up Hv' h1' b s r' d'.symm.r.symm) (Disj.uniR dd.symm d.symm.r.symm)
def PlaceOk (j : Int) (l n : Nat) : Prop := (0 ≤ j ∧ j = n ∧ n < l) ∨ (j < 0 ∧ j + l = n ∧ n < l)
theorem PlaceOk.at {j : Int} {n : Nat} {vs : List V} {v : V} (h : PlaceOk j vs.length n) (e : vs[n]? = some v) : atI vs j = some v := by
  unfold atI ixN
  rcases h with ⟨h1, h2, h3⟩ | ⟨h1, h2, h3⟩
  · rw [if_pos h1, if_pos (by omega)]
    show vs[j.toNat]? = _
    rw [show j.toNat = n by omega]
    exact e
  · rw [if_neg (by omega), if_pos (by omega)]
    show vs[(j + vs.length).toNat]? = _
    rw [show (j + vs.length).toNat = n by omega]
    exact e
end
end WM
namespace WM
open PySem PySem.Spec L2 MM WX
section
variable {B B0 : Bs} {Γ : Cxt} {α β γ : Type} {μ : OTy α} {ν : OTy β} {τ : Ty α} {υ : Ty β} {L : ExTab} {D : Ends} {u : TS} {i : Nat} {W : WX} {te : TE}
end
end WM
namespace WM
open PySem PySem.Spec L2 MM WX
section
variable {B : Bs} {Γ : Cxt} {α : Type} {τ : Ty α} {te : TE} {xs : List α} {x : α}
end
end WM
namespace WM
open PySem PySem.Spec L2 MM WX
section
variable {B B0 : Bs} {Γ : Cxt} {β : Type} {sch : β → List OAs} {y : β} {vs : List V} {rs : List Rg} {Q : VK}
end
end WM
namespace WM
open PySem PySem.Spec L2 MM WX
section
variable {B : Bs} {Γ : Cxt} {β γ δ ρ : Type} {φ : OTy γ} {as : ρ → List As} {L : ExTab} {W : WX} {t : TA} {y : β}
end
end WM
set_option Elab.async false
set_option linter.all false
set_option maxRecDepth 100000
set_option maxHeartbeats 4000000
namespace WM
open PySem PySem.Spec PySem.SeqAt PyProof.Rows L2 MM WX
section
variable {B : Bs} {Γ : Cxt} {K : PySem.W.Frag}
end
end WM
set_option Elab.async false
set_option linter.all false
set_option maxRecDepth 100000
set_option maxHeartbeats 4000000
namespace WM
open PySem PySem.Spec PySem.SeqAt PyProof.Rows L2 MM WX
section
variable {B : Bs} {Γ : Cxt} {L : ExTab} {e : MM.Exn}
end
end WM
set_option Elab.async false
set_option linter.all false
set_option maxRecDepth 100000
set_option maxHeartbeats 4000000
namespace WM
open PySem PySem.Spec L2 MM WX
section
variable {B : Bs} {Γ : Cxt} {α β : Type} {τ : Ty α} {υ : Ty β} {x : α} {y : β} {K : PySem.W.Frag} {t : TE}
end
end WM
set_option Elab.async false
set_option linter.all false
set_option maxRecDepth 100000
set_option maxHeartbeats 4000000
namespace WM
open PySem PySem.Spec L2 MM WX
section
variable {B : Bs} {Γ : Cxt} {K : PySem.W.Frag} {fr : Bool} {t u : TE}
end
end WM
set_option Elab.async false
set_option linter.all false
set_option maxRecDepth 100000
set_option maxHeartbeats 4000000
namespace WM
open PySem PySem.Spec L2 MM WX
structure NF {α : Type} (τ : Ty α) : Prop where
  run : ∀ {H : Hp} {d : Addr} {od : Obj} {kvs : List (Key × V)} {w : HO} {v : V} {x : α}, H d = some (.frz od (.dK kvs)) → τ.rep H v x → τ.rep (upd H d w) v x
section
variable {α β : Type} {τ : Ty α} {υ : Ty β} {K : PySem.W.Frag}
inductive NFC : Cxt → Prop
  | nil : NFC []
  | cons {i : Nat} {α : Type} {τ : Ty α} {x : α} {Γ : Cxt} : NF τ → NFC Γ → NFC ((i, .fz τ x) :: Γ)
theorem NFC.mem {Γ : Cxt} (h : NFC Γ) : ∀ {i : Nat} {e : Ent}, (i, e) ∈ Γ → ∃ (α : Type) (τ : Ty α) (x : α), e = .fz τ x ∧ NF τ := by
  induction h with
  | nil => intro i e m; cases m
  | cons nf _ ih =>
    intro i e m
    rcases List.mem_cons.mp m with z | z
    · cases z
      exact ⟨_, _, _, rfl, nf⟩
    · exact ih z
section
variable {B : Bs} {Γ Γ' : Cxt} {σ σ' : L2.St} {Hv H Hv' H' : Hp} {d : Addr} {od : Obj} {kvs : List (Key × V)} {ta tb : TE} {xs : List (Int × β)} {k0 : Int} {y : β}
theorem Wd.lock {Γ : Cxt} (w : Wd B Γ σ Hv H) (hs : ∀ p ∈ Γ', p ∈ Γ) (nf : NFC Γ') (hd : Hv d = none) (hH : H d = some (.dK kvs)) (hb : B.H0 d = none ∨ B.own d) : Wd { B with Hv0 := upd Hv d (.frz od (.dK kvs)) } Γ' σ (upd Hv d (.frz od (.dK kvs))) (upd H d (.frz od (.dK kvs))) := by
  have nd : ∀ b, ¬ B.own b → B.H0 b ≠ none → b ≠ d := fun b no n z => by
    rw [z] at no n
    exact hb.elim n no
  have sv : Same Hv (upd Hv d (.frz od (.dK kvs))) := same_upd hd
  refine ⟨w.len, fun b o e => ?_, fun b o no e => ?_, fun b n => ?_, Same.refl _, fun b no n z => z, fun _ => emp, fun i e m => ?_, fun i e m oo => ?_, fun i e m oo => ?_, fun i e b m oo n => ?_, fun i j e f m _ oo _ _ => ?_⟩
  · by_cases c : b = d
    · subst c
      rw [upd_same] at e ⊢
      exact e
    · rw [upd_ne c] at e ⊢
      exact w.vis _ _ e
  · have c := nd b no (ne_none_of e)
    rw [upd_ne c]
    exact w.s0 b o no e
  · by_cases c : b = d
    · subst c
      rw [upd_same]
      exact fun z => nomatch z
    · rw [upd_ne c]
      exact w.a0 b n
  · obtain ⟨α, τ, x, rfl, _⟩ := nf.mem m
    obtain ⟨v, h1, h2⟩ := w.fz (hs _ m)
    exact ⟨v, h1, τ.mono sv h2⟩
  · obtain ⟨α, τ, x, rfl, _⟩ := nf.mem m
    cases oo
  · obtain ⟨α, τ, x, rfl, _⟩ := nf.mem m
    cases oo
  · obtain ⟨α, τ, x, rfl, _⟩ := nf.mem m
    cases oo
  · obtain ⟨α, τ, x, rfl, _⟩ := nf.mem m
    cases oo
end
end
end WM
namespace WM
open PySem PySem.Spec L2 MM WX
section
variable {β S' C' T T' : Type} {τ : Ty β} {B B0 : Bs} {Γ : Cxt} {D : Ends} {L : ExTab} {W W' : WX} {i j : Nat} {xs : List (Int × β)} {tb u : TS} {Ls' : S' → Cxt} {Lc : C' → Cxt} {Le' : T → Cxt} {Le'' : T → Cxt}
end
end WM
namespace WM
open PySem PySem.Spec L2 MM WX
end WM
set_option Elab.async false
set_option linter.all false
set_option maxRecDepth 100000
set_option maxHeartbeats 4000000
namespace WM
open PySem PySem.Spec L2 MM WX
section
variable {α β γ : Type} {ν : OTy β} {φ : OTy γ} {B B0 : Bs} {Γ : Cxt} {D : Ends} {i : Nat} {σ : L2.St} {Hv H : Hp} {u : TS} {t2 : TE} {x y : β} {Q : VK} {v : V} {z : γ}
end
end WM
set_option Elab.async false
set_option linter.all false
set_option maxRecDepth 100000
set_option maxHeartbeats 4000000
namespace WM
open PySem PySem.Spec L2 MM WX
end WM
namespace WM
open PySem PySem.Spec L2 MM WX
section
variable {B B0 : Bs} {Γ : Cxt} {D : Ends} {i : Nat} {σ : L2.St} {Hv H : Hp} {u : TS} {tc t0 t1 te : TE} {K : PySem.W.Frag} {xs : List (List Int)} {y0 y1 : List Int} {c : Str} {n : Int}
end
end WM
namespace WM
open PySem PySem.Spec L2 MM WX
section
variable {B B0 : Bs} {Γ : Cxt} {D : Ends} {i : Nat} {σ : L2.St} {Hv H : Hp} {u : TS} {tc t0 t1 te tp tb : TE} {K : PySem.W.Frag} {xs : List (List Int)} {y0 y1 : List Int} {c : Str} {n : Int}
end
end WM
namespace WM
open PySem PySem.Spec L2 MM WX
end WM
set_option Elab.async false
set_option linter.all false
set_option maxRecDepth 100000
set_option maxHeartbeats 4000000
namespace WM
open PySem PySem.Spec L2 MM WX
section
variable {B B0 : Bs} {Γ Γ' Δ : Cxt} {α β γ δ ρ ε ς : Type} {μ : OTy α} {ν : OTy β} {φ : OTy γ} {τ : Ty α} {υ : Ty γ} {as : ρ → List As} {rg : ρ → List Rg} {rgo : ρ → ς → List Rg} {rge : ρ → ε → List Rg} {Q : VK} {E : XK} {L : ExTab} {Hv H Hv' H' h h' : Hp} {D : Ends} {u : TS} {i : Nat} {σ : L2.St} {W : WX} {te tp : TE} {x : α} {y : β} {ks : List Nat} {t : TA} {k : Option Addr} {st : β → α} {z : γ} {C a : Addr} {mn : Str}
section
variable {r : Except (Exn × ε) (γ × ς)} {Γo : ς → Cxt} {Γe : ε → Cxt}
end
end
end WM
namespace MM
section
variable {S C R T α ς ε : Type}
end
instance : DecidableEq Tr := fun a b => match a, b with
  | .i x, .i y => if h : x = y then isTrue (by rw [h]) else isFalse fun e => h (Tr.i.inj e)
  | .s x, .s y => if h : x = y then isTrue (by rw [h]) else isFalse fun e => h (Tr.s.inj e)
  | .l x, .l y => if h : x = y then isTrue (by rw [h]) else isFalse fun e => h (Tr.l.inj e)
  | .i _, .s _ => isFalse fun e => nomatch e
  | .i _, .l _ => isFalse fun e => nomatch e
  | .s _, .i _ => isFalse fun e => nomatch e
  | .s _, .l _ => isFalse fun e => nomatch e
  | .l _, .i _ => isFalse fun e => nomatch e
  | .l _, .s _ => isFalse fun e => nomatch e
inductive BK where
  | whole | slow | lost | spare
deriving DecidableEq, Inhabited
structure BoardV where
  k : BK
  held : List (Option Int)
  num : Int
deriving DecidableEq, Inhabited
end MM
set_option Elab.async false
set_option linter.all false
set_option maxRecDepth 100000
set_option maxHeartbeats 4000000
namespace WM
open PySem PySem.Spec L2 MM WX
section
variable {B B0 : Bs} {Γ Γ' Δ : Cxt} {α β γ δ ρ ε ς : Type} {μ : OTy α} {ν : OTy β} {φ : OTy γ} {τ : Ty α} {υ : Ty γ} {as : ρ → List As} {rg : ρ → List Rg} {rgo : ρ → ς → List Rg} {rge : ρ → ε → List Rg} {Q : VK} {E : XK} {L : ExTab} {Hv H Hv' H' h h' : Hp} {D : Ends} {u : TS} {i : Nat} {σ : L2.St} {W : WX} {te tp ta : TE} {x : α} {y : β} {ks : List Nat} {t : TA} {k : Option Addr} {z : γ} {C a : Addr} {mn : Str} {c : BK → Addr} {b : BoardV} {K : PySem.W.Frag}
structure InsC (K : PySem.W.Frag) (C : Addr) : Prop where
  cl : Cls K C
  ha : PySem.W.findIn K (.ref C) "__class__" = some (some (.builtin "object.__class__"))
  hn : PySem.W.specialIn K (.builtin "object.__class__") "__get__" = some (some (.builtin "getset_descriptor.__get__"))
  htk : PySem.W.takesIn K (.builtin "object.__class__") = some true
  hm : PySem.W.mroIn K C (.type "object") = some true
end
end WM
namespace WX
open PySem PySem.Spec L2 WM
section
variable {X : Cx} {CX : CXT} {k : Nat} {e : Expr} {es : List Expr} {t : TA} {p1 p2 pos : Pos} {x m : Str} {C0 f : Addr} {fd : FuncData} {ps : List Str} {sp : Sp} {dvs : List V} {ds : List Value} {E : XK}
structure BasF (K : PySem.W.Frag) (C0 : Addr) (m : Str) (f : Addr) : Prop where
  rd : PySem.W.readsIn K C0 (.type "type") = true
  sg : PySem.W.specialIn K (.ref C0) "__getattribute__" = some (some (.builtin "type.__getattribute__"))
  vV : PySem.W.findCls K (.ref C0) (.type "type") m = some (.val (.ref f))
  kp : PySem.W.keepIn K (.ref f) = true
end
end WX
set_option Elab.async false
set_option linter.all false
set_option maxRecDepth 100000
set_option maxHeartbeats 4000000
namespace WM
open PySem PySem.Spec L2 MM WX
section
variable {B B0 : Bs} {Γ Γ' Δ : Cxt} {α β γ δ ρ ε ς : Type} {μ : OTy α} {ν : OTy β} {φ : OTy γ} {τ : Ty α} {υ : Ty β} {ψ : Ty γ} {Q : VK} {E : XK} {Hv H Hv' H' h h' : Hp} {D : Ends} {u : TS} {i : Nat} {σ : L2.St} {te tp ta tb ti tx : TE} {x : α} {y : β} {z : γ} {t : TA} {k : Option Addr} {K : PySem.W.Frag}
theorem DP.drop {k0 : Int} : ∀ {kvs : List (Key × V)} {xs : List (Int × β)}, DP kInt υ Hv kvs xs → DP kInt υ Hv (dropK (κ := Key) kvs (.inl k0)) (ddel xs k0)
  | _, _, .nil => .nil
  | p :: kvs, x :: xs, .cons q t => by
    obtain ⟨p1, p2⟩ := p
    obtain ⟨e1, e2⟩ := q
    have e1 : p1 = Sum.inl x.1 := e1
    subst e1
    have ih := DP.drop (k0 := k0) t
    unfold dropK ddel at ih ⊢
    by_cases c : x.1 = k0
    · have c1 : decide ((Sum.inl x.1 : Key) ≠ Sum.inl k0) = false := decide_eq_false fun z => z (congrArg _ c)
      have c2 : decide (x.1 ≠ k0) = false := decide_eq_false fun z => z c
      rw [List.filter_cons_of_neg (by simpa using c1), List.filter_cons_of_neg (by simpa using c2)]
      exact ih
    · have c1 : decide ((Sum.inl x.1 : Key) ≠ Sum.inl k0) = true := decide_eq_true fun z => c (Sum.inl.inj z)
      have c2 : decide (x.1 ≠ k0) = true := decide_eq_true c
      rw [List.filter_cons_of_pos (by simpa using c1), List.filter_cons_of_pos (by simpa using c2)]
      exact .cons ⟨rfl, e2⟩ ih
theorem Reps.get {Hp' : Hp} {vs : List V} {as : List As} (r : Reps Hp' vs as) : ∀ {n : Nat} {a : As}, as[n]? = some a → ∃ v, vs[n]? = some v ∧ a.τ.rep Hp' v a.x := by
  induction r with
  | nil => exact fun e => by simp at e
  | cons q _ ih =>
    intro n a e
    cases n with
    | zero =>
      simp at e
      subst e
      exact ⟨_, rfl, q⟩
    | succ n =>
      obtain ⟨v, h1, h2⟩ := ih (n := n) (by simpa using e)
      exact ⟨v, by simpa using h1, h2⟩
end
section
variable {α β γ : Type} {τ : Ty α} {υ : Ty β} {ψ : Ty γ} [DecidableEq α] [DecidableEq β] [DecidableEq γ] {K : PySem.W.Frag} {n m l : Nat}
end
end WM
set_option Elab.async false
set_option linter.all false
set_option maxRecDepth 100000
set_option maxHeartbeats 4000000
namespace WM
open PySem PySem.Spec L2 MM WX
section
variable {B B0 : Bs} {Γ Γ' Δ : Cxt} {α β γ δ ρ ε ς : Type} {μ : OTy α} {ν : OTy β} {φ : OTy γ} {τ : Ty α} {υ : Ty γ} {as : ρ → List As} {rg : ρ → List Rg} {rgo : ρ → ς → List Rg} {rge : ρ → ε → List Rg} {Q : VK} {E : XK} {L : ExTab} {Hv H Hv' H' h h' : Hp} {D : Ends} {u : TS} {i : Nat} {σ : L2.St} {W : WX} {te tp : TE} {x : α} {y : β} {ks : List Nat} {t : TA} {k : Option Addr} {st : β → α} {z : γ} {C a : Addr} {mn : Str} {dvs : List V} {ads : List As}
theorem Reps.app {Hp' : Hp} {vs us : List V} {a b : List As} (r : Reps Hp' vs a) (q : Reps Hp' us b) : Reps Hp' (vs ++ us) (a ++ b) := by
  induction r with
  | nil => exact q
  | cons r _ ih => exact .cons r ih
end
section
variable {B B0 : Bs} {Γ Γ' Δ : Cxt} {α β γ δ : Type} {μ : OTy α} {ν : OTy β} {φ : OTy γ} {τ : Ty γ} {υ : Ty β} {ψ : Ty δ} {te t2 : TE} {z : γ} {y : β} {w0 : δ} {r : R2}
end
section
variable {B : Bs} {Γ : Cxt} {L : ExTab} {D : Ends} {K : PySem.W.Frag} {Wout : WX} {u : TS} {e : Exn} {S S' C C' R R' T T' : Type} {RR : R → VK → Prop} {Ls' : S' → Cxt} {Lc : C → Cxt} {Le' : T → Cxt}
end
end WM
set_option Elab.async false
set_option linter.all false
set_option maxRecDepth 100000
set_option maxHeartbeats 4000000
namespace WM
open PySem PySem.Spec L2 MM WX
section
variable {K : PySem.W.Frag} {B B0 : Bs} {Γ Γ' : Cxt} {α β γ : Type} {ν : OTy β} {φ : OTy γ} {Hv H h : Hp} {D : Ends} {u : TS} {i k R j n : Nat} {σ : L2.St} {te t0 tb tp ti : TE} {x : α} {x' : α} {y y' : β} {xs : List β} {C a as b : Addr} {f : Str} {sch : α → List (Str × OAs)} {v : V} {z : γ} {st : β → List β} {schH : OAs → α → List (Str × OAs)}
end
end WM
set_option Elab.async false
set_option linter.all false
set_option maxRecDepth 100000
set_option maxHeartbeats 4000000
namespace WM
open PySem PySem.Spec L2 MM WX
section
variable {K : PySem.W.Frag} {B B0 : Bs} {Γ Γ' : Cxt} {α β γ δ ε : Type} {ν : OTy β} {φ : OTy γ} {μ : OTy ε} {τ : Ty α} {υ : Ty β} {Hv H h : Hp} {D : Ends} {u : TS} {i : Nat} {σ : L2.St} {te tp ti ta tb : TE} {t : TA} {x : α} {y : β} {w : ε} {k : Option Addr}
theorem Reps.at {Hv : Hp} {vs : List V} {as : List As} (r : Reps Hv vs as) : ∀ {j : Nat} {a : As}, as[j]? = some a → ∃ v, vs[j]? = some v ∧ a.τ.rep Hv v a.x := by
  induction r with
  | nil => intro j a e; simp at e
  | cons r _ ih =>
    intro j a e
    cases j with
    | zero =>
      simp at e
      subst e
      exact ⟨_, rfl, r⟩
    | succ j =>
      simp at e
      obtain ⟨v, e1, r1⟩ := ih e
      exact ⟨v, by simpa using e1, r1⟩
end
end WM
set_option linter.all false
namespace MM
open PySem
end MM
set_option Elab.async false
set_option linter.all false
set_option maxRecDepth 100000
set_option maxHeartbeats 4000000
namespace WX
open PySem PySem.Spec PyProof.Rows L2
inductive Hdl : Type 1
  | only (c : Value) (ts : Addr → Value → Option Addr → TS)
  | asN (c : Value) (i : Nat) (ts : Addr → List (Addr × Obj) → TS)
inductive HdsV (X : Cx) : List ExceptHandler → List Hdl → Prop
  | nil : HdsV X [] []
  | only {x : Str} {c : Value} {ts : Addr → Value → Option Addr → TS} {b₀ : Stmt} {suite : List Stmt} {np pos' : Pos} {hds : List ExceptHandler} {l : List Hdl} (hc : Names X x c)
      (hsu : ∀ (a : Addr) (oe : Obj) (cls : Value) (d : Option Addr) (pn : List (Addr × Obj)), Zc cls d oe → (∃ vs, oe.data = .fields vs) → PSs (X.suite a ((a, oe) :: pn)) (b₀ :: suite) (ts a cls d)) (r : HdsV X hds l) :
      HdsV X (.ExceptHandler (some (.Name x np)) none (b₀ :: suite) pos' :: hds) (.only c ts :: l)
  | asN {x n : Str} {c : Value} {i : Nat} {ts : Addr → List (Addr × Obj) → TS} {b₀ : Stmt} {suite : List Stmt} {np pos' : Pos} {hds : List ExceptHandler} {l : List Hdl} (hN : X.N.Nodup) (hi : X.N[i]? = some n) (hln : X.env.kindOf n = some .local) (hc : Names X x c)
      (hsu : ∀ (a : Addr) (pn : List (Addr × Obj)), PSs (X.suite a pn) (b₀ :: suite) (ts a pn)) (r : HdsV X hds l) :
      HdsV X (.ExceptHandler (some (.Name x np)) (some n) (b₀ :: suite) pos' :: hds) (.asN c i ts :: l)
section
variable {X : Cx} {body : List Stmt} {h₀ : ExceptHandler} {hds : List ExceptHandler} {l : List Hdl} {pos : Pos} {tb : WX → TS} {Wout : WX}
end
end WX
namespace WM
open PySem PySem.Spec L2 MM WX
section
variable {K : PySem.W.Frag} {L : ExTab} {B : Bs} {Γ : Cxt} {D : Ends} {u : TS} {e : Exn} {Wout : WX} {r : List Hdl} {i : Nat} {Xs : List Nat} {c : Value}
section
variable {S S' C R T T' : Type} {Ls' : S' → Cxt} {Lc : C → Cxt} {RR : R → VK → Prop} {Le' : T → Cxt}
end
end
section
variable {B : Bs} {Γ : Cxt} {S : Type}
end
structure EqG (K : PySem.W.Frag) {α : Type} [DecidableEq α] (τ : Ty α) (n : Nat) where
  dat : α → PyData
  at_ : ∀ {H v x}, τ.rep H v x → Dp K H v (dat x)
  ok : α → Bool
  lay : ∀ x, ok x = true → (dat x).canLay0 = true
  dep : ∀ x, (dat x).depth ≤ n
  eqv : ∀ x y, PyData.eqv (dat x) (dat y) = decide (x = y)
section
variable {K : PySem.W.Frag} {α γ : Type} [DecidableEq α] [DecidableEq γ] {τ : Ty α} {n : Nat} {B : Bs} {Γ : Cxt}
theorem EqG.all (E : EqG K τ n) {H : Hp} : ∀ {vs : List V} {xs : List α}, Paired (τ.rep H) vs xs → DpAll K H vs (xs.map E.dat)
  | _, _, .nil => .nil
  | _, _, .cons r t => .cons (E.at_ r) (EqG.all E t)
theorem EqG.shp (E : EqG K τ n) (hn : n ≤ 64) (x : α) (h : E.ok x = true) : SeqAt.shaped (E.dat x) = true := by
  unfold SeqAt.shaped
  rw [E.lay x h, Bool.true_and, decide_eq_true_iff]
  exact Nat.le_trans (E.dep x) hn
end
end WM
set_option Elab.async false
set_option linter.all false
set_option maxRecDepth 100000
set_option maxHeartbeats 4000000
namespace WM
open PySem PySem.Spec L2 MM WX
section
variable {K : PySem.W.Frag} {B B0 : Bs} {Γ Γ' : Cxt} {α β γ δ ε : Type} {μ : OTy α} {ν : OTy β} {τ : Ty β} {Hv H h : Hp} {D : Ends} {u : TS} {i : Nat} {σ : L2.St} {te tp ti ta tb : TE} {t : TA} {x : α} {y : β} {k : Option Addr} {l a : Addr} {vs : List V} {xs : List β} {st : List β → α}
end
end WM
set_option Elab.async false
set_option linter.all false
set_option maxRecDepth 100000
set_option maxHeartbeats 4000000
namespace WM
open PySem PySem.Spec PyProof.Rows L2 NdefX LamX
def CelO (c : Addr) (v : V) : HO := .ext fun h => ∃ u, L2.RelV v u ∧ h.IsCell c (some u)
section
variable {P : Program} {w : World} {H H' : Hp} {h h' : Heap} {a : Addr} {v : V} {cs : List Addr} {fs ex : List Addr}
end
structure ClS where
  name : Str
  qual : Str
  params : Arguments
  body : List Stmt
  scope : Scope
  fr : List Str
abbrev ClS.nf (S : ClS) (cl : List (Str × Addr)) (c : Addr) : NdefX.NF := ⟨S.name, S.qual, S.params, S.body, S.scope, cl, c⟩
structure ClAt (S : ClS) (H : Hp) (f : Addr) (cl : List (Str × Addr)) (c : Addr) (cs : List Addr) (ws : List V) : Prop where
  fn : H f = some (FnO f (S.nf cl c))
  co : H c = some (CodeO c S.qual)
  lw : ws.length = S.fr.length
  lc : cs.length = S.fr.length
  key : ∀ y a, cl.lookup y = some a → a ∈ cs
  inj : ∀ x y a, cl.lookup x = some a → cl.lookup y = some a → x = y
  has : ∀ (i : Nat) (y : Str), S.fr[i]? = some y → ∃ a v, cs[i]? = some a ∧ cl.lookup y = some a ∧ ws[i]? = some v ∧ H a = some (CelO a v)
section
variable {S : ClS} {H H' : Hp} {f c : Addr} {cl : List (Str × Addr)} {cs : List Addr} {ws : List V}
theorem ClAt.up (C : ClAt S H f cl c cs ws) (s : Same H H') : ClAt S H' f cl c cs ws :=
  ⟨s _ _ C.fn, s _ _ C.co, C.lw, C.lc, C.key, C.inj, fun i y e => by
    obtain ⟨a, v, h1, h2, h3, h4⟩ := C.has i y e
    exact ⟨a, v, h1, h2, h3, s _ _ h4⟩⟩
end
section
variable {X : Cx} {S : ClS} {ps : List Str} {sp : List (Option V) → Sp} {t : TA} {i j k : Nat} {x : Str} {e : Expr} {es : List Expr} {p pos : Pos}
end
structure PX (X : Cx) (r : Nat) (body : List Stmt) (t : TS) : Prop where
  run : ∀ (pins : List (Addr × Obj)) (s : Shared) (σ : L2.St) (H : Hp) (nx : L2.St → Hp → Prop), Inv X pins σ H s → t { nx := nx, rt := fun _ _ => False } σ H →
    wpAny (model X.prog X.w) X.A (execs body X.env) (fun f s' => ∃ u v σ' H', f = .ret u ∧ Inv X pins σ' H' s' ∧ L2.RelV v u ∧ nx (σ'.set r (some v)) H') X.xe s
section
variable {X : Cx} {r : Nat} {st : Stmt} {rest : List Stmt} {t u : TS} {e : Expr} {te : TE} {pos : Pos}
end
end WM
set_option Elab.async false
set_option linter.all false
set_option maxRecDepth 100000
set_option maxHeartbeats 4000000
namespace WM
open PySem PySem.Spec PyProof.Rows L2 NdefX LamX
def TabG (H : Hp) (q : Str) (ps : Array Value) : Prop := TriplesOk ps.toList ∧ ∀ (pos : Pos) (cv : Value), codeAmong pos ps.toList = some cv → ∃ c, cv = .ref c ∧ H c = some (CodeO c q)
section
variable {X : Cx} {pins : List (Addr × Obj)} {σ : L2.St} {H : Hp} {s : Shared}
end
section
variable {P : Program} {w : World} {K : PySem.W.Frag} {mg : Str → Option Value} {base : Heap} {k : Nat} {f : Addr} {N ps fr : List Str} {js : List Nat} {r : Nat} {sp : Sp} {x qual : Str} {st : Stmt} {fd : FuncData}
end
end WM
set_option Elab.async false
set_option linter.all false
set_option maxRecDepth 100000
set_option maxHeartbeats 4000000
namespace WM
open PySem PySem.Spec PyProof.Rows L2 NdefX LamX MM WX
structure CloAt (S : ClS) (Hv h : Hp) (f : Addr) (cl : List (Str × Addr)) (c : Addr) (cs : List Addr) (ws : List V) : Prop where
  fn : Hv f = some (FnO f (S.nf cl c))
  co : Hv c = some (CodeO c S.qual)
  lw : ws.length = S.fr.length
  lc : cs.length = S.fr.length
  key : ∀ y a, cl.lookup y = some a → a ∈ cs
  inj : ∀ x y a, cl.lookup x = some a → cl.lookup y = some a → x = y
  has : ∀ (i : Nat) (y : Str), S.fr[i]? = some y → ∃ a v, cs[i]? = some a ∧ cl.lookup y = some a ∧ ws[i]? = some v ∧ h a = some (CelO a v)
  dom : ∀ b, h b ≠ none → b ∈ cs
section
variable {S : ClS} {Hv Hv' h H : Hp} {f c : Addr} {cl : List (Str × Addr)} {cs : List Addr} {ws : List V}
theorem CloAt.up (C : CloAt S Hv h f cl c cs ws) (s : Same Hv Hv') : CloAt S Hv' h f cl c cs ws := ⟨s _ _ C.fn, s _ _ C.co, C.lw, C.lc, C.key, C.inj, C.has, C.dom⟩
end
def oPin {α : Type} (f : Addr) (μ : OTy α) : OTy α := ⟨fun Hv h v x => v = .ref f ∧ μ.rep Hv h v x, fun s ⟨e, r⟩ => ⟨e, μ.mono s r⟩⟩
section
variable {B B0 : Bs} {Γ : Cxt} {α β γ δ κ ρ ε ς : Type} {μ : OTy α} {ν : OTy β} {φ : OTy γ} {τ : Ty α} {as : ρ → List As} {rg : ρ → List Rg} {rgo : ρ → ς → List Rg} {Q : VK} {E : XK} {L : ExTab} {Hv H Hv' H' h h' : Hp} {D : Ends} {u : TS} {i : Nat} {σ : L2.St} {W : WX} {te tp : TE} {x : α} {y : γ} {ks : List Nat} {t : TA} {k : Option Addr} {f : Addr}
theorem OwF.grow {F : Nat → Hp} (o : OwF B Γ σ Hv H F) (g : Grow Hv H Hv' H') : OwF B Γ σ Hv' H' F := ⟨fun i e m => (o.ent i e m).up g.v, fun i e m oo => Same.trans (o.sub i e m oo) g.s, fun i e m oo b n => g.nw b (Same.some_ne (o.sub i e m oo) n) (o.hid i e m oo b n), o.new, o.dis⟩
end
theorem TabG.up {H H' : Hp} {q : Str} {ps : Array Value} (t : TabG H q ps) (s : Same H H') : TabG H' q ps := ⟨t.1, fun pos cv e => by
  obtain ⟨c, h1, h2⟩ := t.2 pos cv e
  exact ⟨c, h1, s _ _ h2⟩⟩
section
variable {B B0 : Bs} {Γ : Cxt} {α β γ δ κ ρ ε ς : Type} {μ : OTy α} {ν : OTy β} {φ : OTy γ} {D : Ends} {u : TS} {i kt : Nat} {te : TE} {P : Addr} {q : Str} {mk : Addr → NdefX.NF}
end
end WM
set_option Elab.async false
set_option linter.all false
set_option maxRecDepth 100000
set_option maxHeartbeats 4000000
namespace WM
open PySem PySem.Spec PyProof.Rows L2 NdefX LamX MM WX
section
variable {B B0 : Bs} {Γ Γ' : Cxt} {α β γ δ κ ρ ε ς : Type} {μ : OTy α} {ν : OTy β} {φ : OTy γ} {Hv H : Hp} {D : Ends} {u : TS} {i r : Nat} {te : TE} {σ : L2.St}
end
end WM
set_option Elab.async false
set_option linter.all false
set_option maxRecDepth 100000
set_option maxHeartbeats 4000000
namespace WM
open PySem PySem.Spec PyProof.Rows L2 NdefX LamX MM WX
section
variable {P : Program} {w : World} {K : PySem.W.Frag} {mg : Str → Option Value} {base : Heap} {N ps : List Str} {S : ClS} {cl : List (Str × Addr)} {c f : Addr} {k : Nat} {sp : Sp}
end
section
variable {B B0 : Bs} {Γ Γ' : Cxt} {α β γ δ κ ρ ε ς : Type} {μ : OTy α} {ν : OTy β} {φ : OTy γ} {τ : Ty α} {as : ρ → List As} {rg : ρ → List Rg} {rgo : ρ → ς → List Rg} {Q : VK} {E : XK} {L : ExTab} {Hv H Hv' H' h h' : Hp} {D : Ends} {u : TS} {i : Nat} {σ : L2.St} {te tp : TE} {x : α} {y : β} {k : Option Addr} {f : Addr} {C : Addr}
section
variable {S S' C' R R' T : Type}
def wi {δ α : Type} (l : α) : Except Exn δ → Except Exn (δ × α)
  | .ok x => .ok (x, l)
  | .error e => .error e
end
theorem OFs.pin {Hv : Hp} {n : Str} : ∀ {j : Nat} {g : Hp} {fs : List (Str × V)} {as : List (Str × OAs)}, OFs Hv g fs as → as[j]? = some (n, ⟨μ, x⟩) → IsRef μ → ∃ f, OFs Hv g fs (as.set j (n, ⟨oPin f μ, x⟩))
  | _, _, _, _, .nil, e, _ => by simp at e
  | 0, _, _, _, .cons r rest d, e, ir => by
    simp at e
    obtain ⟨rfl, rfl⟩ := e
    obtain ⟨f, rfl⟩ := ir.run r
    exact ⟨f, .cons (a := ⟨oPin f _, _⟩) ⟨rfl, r⟩ rest d⟩
  | j + 1, _, _, _, .cons r rest d, e, ir => by
    obtain ⟨f, q⟩ := OFs.pin (j := j) rest (by simpa using e) ir
    exact ⟨f, .cons r q d⟩
theorem OFs.conv {Hv : Hp} {n : Str} : ∀ {j : Nat} {g : Hp} {fs : List (Str × V)} {as : List (Str × OAs)}, OFs Hv g fs as → as[j]? = some (n, ⟨μ, x⟩) → (∀ h v, μ.rep Hv h v x → ν.rep Hv h v y) → OFs Hv g fs (as.set j (n, ⟨ν, y⟩))
  | _, _, _, _, .nil, e, _ => by simp at e
  | 0, _, _, _, .cons r rest d, e, hc => by
    simp at e
    obtain ⟨rfl, rfl⟩ := e
    exact .cons (a := ⟨ν, y⟩) (hc _ _ r) rest d
  | j + 1, _, _, _, .cons r rest d, e, hc => .cons r (OFs.conv (j := j) rest (by simpa using e) hc) d
end
end WM
set_option Elab.async false
set_option linter.all false
set_option maxRecDepth 100000
set_option maxHeartbeats 4000000
namespace MM
end MM
namespace WM
open PySem PySem.Spec PyProof.Rows L2 NdefX LamX MM WX
section
variable {B B0 : Bs} {Γ Γ' : Cxt} {α β γ δ κ ρ ε ς : Type} {μ : OTy α} {ν : OTy β} {φ : OTy γ} {τ : Ty α} {Hv H Hv' H' h h' : Hp} {D : Ends} {u : TS} {i : Nat} {σ : L2.St} {te tp : TE} {K : PySem.W.Frag} {k : Option Addr} {f : Addr} {C : Addr}
end
end WM
set_option Elab.async false
set_option linter.all false
set_option maxRecDepth 100000
set_option maxHeartbeats 4000000
namespace WM
open PySem PySem.Spec PyProof.Rows L2 NdefX LamX MM WX
section
variable {B B0 : Bs} {Γ Γ' : Cxt} {α β γ δ κ ρ ε ς δ' : Type} {μ : OTy α} {ν : OTy κ} {φ : OTy δ'} {τ : Ty α} {as : ρ → List As} {rg : ρ → List Rg} {E : XK} {L : ExTab} {Hv H Hv' H' h h' : Hp} {D : Ends} {u : TS} {i : Nat} {σ : L2.St} {te tp : TE} {K : PySem.W.Frag} {C : Addr} {sp : Sp} {t : TA} {R : V → L2.St → Hp → Prop}
end
end WM
set_option Elab.async false
set_option linter.all false
set_option maxRecDepth 100000
set_option maxHeartbeats 4000000
namespace WM
open PySem PySem.Spec PyProof.Rows L2 NdefX LamX MM WX
section
variable {B : Bs} {Γ Γ' : Cxt} {α γ : Type} {τ : Ty α} {φ : Ty γ} {te : TE} {R : V → L2.St → Hp → Prop} {i : Nat} {a : Addr}
end
end WM
namespace WM
open PySem PySem.Spec PyProof.Rows L2 NdefX LamX MM WX
section
variable {B : Bs} {Γ Γ' : Cxt} {α γ R' R0 S S' C0 T0 : Type} {φ : OTy γ} {te : TE} {i : Nat} {f : Addr} {D : Ends} {L : ExTab} {W : WX}
end
end WM
set_option Elab.async false
set_option linter.all false
set_option maxRecDepth 100000
set_option maxHeartbeats 4000000
namespace MM
def MulWOk (i j : Int) : Prop := (-(2 ^ 1000) < i ∧ i < 2 ^ 1000) ∧ (-(2 ^ 1000) < j ∧ j < 2 ^ 1000)
instance {i j : Int} : Decidable (MulWOk i j) := inferInstanceAs (Decidable (_ ∧ _))
end MM
namespace WM
open PySem PySem.Spec PyProof.Rows L2 NdefX LamX MM WX
theorem natAbs_lt_pow {i : Int} (h : -(2 ^ 1000) < i ∧ i < 2 ^ 1000) : i.natAbs < 2 ^ 1000 := by
  have e : ((2 ^ 1000 : Nat) : Int) = (2 : Int) ^ 1000 := by rw [Int.natCast_pow]; rfl
  obtain ⟨h1, h2⟩ := h
  rw [← e] at h1 h2
  omega
theorem ov_mulWG {i j : Int} (c : MulWOk i j) : OpV (rI CMulW fun i j => .int (i * j)) tInt tInt tInt i j (i * j) := ov_I (wide_mul (a := 1000) (b := 1000) (natAbs_lt_pow c.1) (natAbs_lt_pow c.2) (by decide) (by decide) (by decide)) fun _ => rfl
section
variable {B B0 : Bs} {Γ Γ' : Cxt} {α β γ δ κ ρ ε ς δ' : Type} {μ : OTy α} {ν : OTy κ} {φ : OTy δ'} {τ : Ty α} {as : ρ → List As} {rg : ρ → List Rg} {E : XK} {L : ExTab} {Hv H Hv' H' h h' : Hp} {D : Ends} {u : TS} {i : Nat} {σ : L2.St} {te tp : TE} {K : PySem.W.Frag} {C : Addr} {sp : Sp} {t : TA} {R : V → L2.St → Hp → Prop}
end
end WM
set_option Elab.async false
set_option linter.all false
set_option maxRecDepth 100000
set_option maxHeartbeats 4000000
namespace WM
open PySem PySem.Spec PyProof.Rows L2 NdefX LamX MM WX
structure NB {α : Type} (τ : Ty α) : Prop where
  run : ∀ {H : Hp} {d : Addr} {od : Obj} {kvs : List (Key × V)} {v : V} {x : α}, H d = some (.dK kvs) → τ.rep H v x → τ.rep (upd H d (.frz od (.dK kvs))) v x
structure ONB {α : Type} (μ : OTy α) : Prop where
  run : ∀ {H h : Hp} {d : Addr} {od : Obj} {kvs : List (Key × V)} {v : V} {x : α}, H d = some (.dK kvs) → μ.rep H h v x → μ.rep (upd H d (.frz od (.dK kvs))) h v x
section
variable {α β γ : Type} {τ : Ty α} {υ : Ty β} {μ : OTy α} {ν : OTy β} {K : PySem.W.Frag} {H : Hp} {d : Addr} {od : Obj} {kvs : List (Key × V)}
inductive NBC : Cxt → Prop
  | nil : NBC []
  | fz {i : Nat} {α : Type} {τ : Ty α} {x : α} {Γ : Cxt} : NB τ → NBC Γ → NBC ((i, .fz τ x) :: Γ)
  | ow {i : Nat} {α : Type} {μ : OTy α} {x : α} {k : Option Addr} {Γ : Cxt} : ONB μ → NBC Γ → NBC ((i, .ow k μ x) :: Γ)
theorem NBC.ent {Γ : Cxt} {σ : L2.St} (nb : NBC Γ) {F : Hp} (e : H d = some (.dK kvs)) : ∀ {i : Nat} {t : Ent}, (i, t) ∈ Γ → EntOk σ H F i t → EntOk σ (upd H d (.frz od (.dK kvs))) F i t := by
  induction nb with
  | nil => intro i t m; cases m
  | fz n _ ih =>
    intro i t m r
    rcases List.mem_cons.mp m with z | z
    · cases z
      obtain ⟨v, h1, h2⟩ := r
      exact ⟨v, h1, n.run e h2⟩
    · exact ih z r
  | ow n _ ih =>
    intro i t m r
    rcases List.mem_cons.mp m with z | z
    · cases z
      obtain ⟨v, h1, h2⟩ := r
      exact ⟨v, h1, n.run e h2⟩
    · exact ih z r
end
section
variable {B : Bs} {Γ Γ' : Cxt} {α β γ : Type} {υ : Ty β} {ν : OTy γ} {y : γ} {te : TE} {xs : List (Int × β)} {i : Nat}
end
section
variable {B B0 : Bs} {Γ Γ' : Cxt} {α β γ S' C' T T' : Type} {υ : Ty β} {τ : Ty β} {ν : OTy γ} {y : γ} {te ta : TE} {xs : List (Int × β)} {i j : Nat} {fr : Bool} {K : PySem.W.Frag} {D : Ends} {L : ExTab} {W W' : WX} {tb u : TS} {Ls' : S' → Cxt} {Lc : C' → Cxt} {Le' : T → Cxt} {Le'' : T → Cxt}
end
section
variable {B : Bs} {Γ : Cxt} {β : Type} {υ : Ty β} {te : TE} {xs : List (Int × β)}
end
section
variable {B : Bs} {Γ : Cxt} {α β : Type} {υ : Ty β} {μ : OTy α} {tp : TE} {u : TS} {i : Nat} {k : Option Addr} {x : α} {D : Ends} {K : PySem.W.Frag}
end
def DEq (xs ys : List (Int × Int)) : Prop := xs.length = ys.length ∧ ∀ p ∈ xs, dget ys p.1 = some p.2
instance {xs ys : List (Int × Int)} : Decidable (DEq xs ys) := inferInstanceAs (Decidable (_ ∧ _))
section
variable {K : PySem.W.Frag}
end
end WM
set_option Elab.async false
set_option linter.all false
set_option maxRecDepth 100000
set_option maxHeartbeats 4000000
namespace MM
end MM
namespace WM
open PySem PySem.Spec PyProof.Rows L2 NdefX LamX MM WX
section
variable {B : Bs} {Γ : Cxt} {ρ ς α0 α1 α2 α3 : Type} {as : ρ → List As} {rg : ρ → List Rg} {rgo : ρ → ς → List Rg} {E : XK} {D : Ends} {u : TS} {i : Nat} {sp : Sp} {t : TA} {R : V → L2.St → Hp → Prop}
end
end WM
set_option Elab.async false
set_option linter.all false
set_option maxRecDepth 100000
set_option maxHeartbeats 4000000
namespace WM
open PySem PySem.Spec L2 MM WX
section
variable {K : PySem.W.Frag} {B : Bs} {Γ : Cxt} {α β γ δ : Type} {τ : Ty α} {υ : Ty β} {ψ : Ty γ} {φ : Ty δ} {D : Ends} {u : TS} {i j k l : Nat} {te tu : TE}
theorem Reps.drop {Hv : Hp} {vs : List V} {as : List As} (r : Reps Hv vs as) : ∀ n : Nat, Reps Hv (vs.drop n) (as.drop n) := by
  induction r with
  | nil => intro n; rw [List.drop_nil, List.drop_nil]; exact .nil
  | cons r rr ih =>
    intro n
    cases n with
    | zero => exact .cons r rr
    | succ n => exact ih n
end
section
variable {B : Bs} {Γ : Cxt} {δ κ ρ δ' : Type} {ν : OTy κ} {φ : OTy δ'} {as : ρ → List As} {E E2 : XK} {L : ExTab} {D : Ends} {u : TS} {i : Nat} {C : Addr} {sp2 : Sp} {ts : TA}
end
end WM
set_option Elab.async false
set_option linter.all false
set_option maxRecDepth 100000
set_option maxHeartbeats 4000000
namespace WM
open PySem PySem.Spec L2 MM WX
section
variable {K : PySem.W.Frag} {α : Type} {τ : Ty α} [DecidableEq α] {n : Nat}
end
section
variable {B : Bs} {Γ : Cxt} {α : Type} {τ : Ty α} {K : PySem.W.Frag}
end
end WM
set_option Elab.async false
set_option linter.all false
set_option maxRecDepth 100000
set_option maxHeartbeats 4000000
namespace WM
open PySem PySem.Spec L2 MM WX
section
variable {B : Bs} {Γ : Cxt} {α : Type} {τ : Ty α} {K : PySem.W.Frag} [DecidableEq α] {n : Nat}
end
section
variable {B : Bs} {Γ : Cxt} {δ κ ρ δ' : Type} {ν : OTy κ} {φ : OTy δ'} {as : ρ → List As} {E E2 : XK} {L : ExTab} {D : Ends} {u : TS} {C : Addr} {sp2 : Sp} {ts : TA}
end
end WM
set_option Elab.async false
set_option linter.all false
set_option maxRecDepth 100000
set_option maxHeartbeats 4000000
namespace MM
open PySem PySem.Spec L2
def sAt (z : Str) (i : Int) : Option Str := if z.length ≤ 1000 then (ixO z.cps.toList i).map fun c => ⟨#[c]⟩ else none
def signs (z : Str) : List Str := z.cps.toList.map fun c => ⟨#[c]⟩
def sIn (x z : Str) : Bool := x.cps.toList.all fun c => decide (c ∈ z.cps.toList)
end MM
namespace WM
open PySem PySem.Spec L2 MM WX
section
variable {B : Bs} {Γ : Cxt} {K : PySem.W.Frag} {fr : Bool} {t u : TE}
theorem line1000 : 1000 ≤ sizeLine := by decide
theorem ov_addS {i j : Str} (c : i.length + j.length ≤ 1000) : OpV (fun x y H Q => ∃ i j, x = .str i ∧ y = .str j ∧ i.length + j.length ≤ sizeLine ∧ Q (.str (i ++ j)) H) tStr tStr tStr i j (i ++ j) := fun Hv H v w s e1 e2 Q k =>
  ⟨i, j, e1, e2, Nat.le_trans c line1000, k _ _ _ (Grow.refl s) rfl⟩
theorem atI_ixO {α : Type} {xs : List α} {i : Int} {x : α} (h : ixO xs i = some x) : atI xs i = some x := by
  unfold ixO at h
  unfold atI ixN
  by_cases h0 : 0 ≤ i
  · rw [if_pos h0] at h ⊢
    have hl := (List.getElem?_eq_some_iff.mp h).1
    first
    | rw [if_pos (by omega)]; exact h
    | simp [hl, h]
  · rw [if_neg h0] at h ⊢
    by_cases h1 : -(xs.length : Int) ≤ i
    · rw [if_pos h1] at h
      first
      | rw [if_pos (by omega)]; exact h
      | simp [h1, h]
    · rw [if_neg h1] at h
      cases h
theorem ov_ixS {z c : Str} {i : Int} (e : sAt z i = some c) : OpV rIxS tStr tInt tStr z i c := fun Hv H v w s e1 e2 Q k => by
  unfold sAt at e
  split at e
  · rename_i hl
    obtain ⟨n, hn, rfl⟩ := Option.map_eq_some_iff.mp e
    exact ⟨z, i, n, e1, e2, Nat.le_trans hl line1000, atI_ixO hn, k _ _ _ (Grow.refl s) rfl⟩
  · cases e
theorem ov_notInS {x z : Str} (e : x.length = 1) : OpV (fun x y H Q => ∃ (c : Nat) (z : Str), x = .str ⟨#[c]⟩ ∧ y = .str z ∧ Q (.bl (!decide (c ∈ z.cps.toList))) H) tStr tStr tBool x z (!sIn x z) := fun Hv H v w s e1 e2 Q k => by
  obtain ⟨⟨l⟩⟩ := x
  have e : l.length = 1 := e
  match l, e with
  | [c], _ =>
    exact ⟨c, z, e1, e2, k _ _ _ (Grow.refl s) (congrArg V.bl (by simp [sIn]))⟩
theorem sm_lenS {z : Str} (hl : z.length ≤ 1000) (h : Sm B Γ t tStr z) : Sm B Γ (tCB (fun xs H Q => ∃ z, xs = [.str z] ∧ z.length ≤ sizeLine ∧ Q (.int z.length) H) (tCons t tNil)) tInt (z.length : Int) := fun σ Hv H w Q k =>
  h σ Hv H w _ fun v Hv1 H1 g1 r1 => ⟨z, by rw [show v = .str z from r1], Nat.le_trans hl line1000, k _ _ _ g1 rfl⟩
theorem sm_find {a b : Str} (h : Sm B Γ t tStr a) (h' : Sm B Γ u tStr b) : Sm B Γ (tM1 (fun x xs H Q => ∃ a b, x = .str a ∧ xs = [.str b] ∧ Q (.int (Txt.find a b)) H) t u) tInt (Txt.find a b) := fun σ Hv H w Q k =>
  h σ Hv H w _ fun v Hv1 H1 g1 r1 => ⟨⟨a, r1⟩, h' σ Hv1 H1 (w.grow g1) _ fun v2 Hv2 H2 g2 r2 => ⟨a, b, r1, by rw [show v2 = .str b from r2], k _ _ _ (g1.trans g2) rfl⟩⟩
theorem sm_zfill {a : Str} {i : Int} (c : 0 ≤ i ∧ i ≤ 1000) (h : Sm B Γ t tStr a) (h' : Sm B Γ u tInt i) : Sm B Γ (tM1 (fun x xs H Q => ∃ (a : Str) (i : Int), x = .str a ∧ xs = [.int i] ∧ PadOk i = true ∧ Q (.str (Txt.zfill a i)) H) t u) tStr (Txt.zfill a i) := fun σ Hv H w Q k =>
  h σ Hv H w _ fun v Hv1 H1 g1 r1 => ⟨⟨a, r1⟩, h' σ Hv1 H1 (w.grow g1) _ fun v2 Hv2 H2 g2 r2 => ⟨a, i, r1, by rw [show v2 = .int i from r2], by
    obtain ⟨n, rfl⟩ : ∃ n : Nat, i = n := ⟨i.toNat, by omega⟩
    have hn : n ≤ 1000 := by omega
    have : ∀ n : Nat, n ≤ 1000 → PadOk (n : Int) = true := by decide +kernel
    exact this n hn, k _ _ _ (g1.trans g2) rfl⟩⟩
theorem sm_upper {a : Str} (hl : a.length ≤ 1000) (h : Sm B Γ t tStr a) : Sm B Γ (tM0 (fun x xs H Q => ∃ a, x = .str a ∧ xs = [] ∧ a.length ≤ 5592405 ∧ Q (.str (Txt.upper a)) H) t) tStr (Txt.upper a) := fun σ Hv H w Q k =>
  h σ Hv H w _ fun v Hv1 H1 g1 r1 => ⟨⟨a, r1⟩, a, r1, rfl, by omega, k _ _ _ g1 rfl⟩
theorem paired_strs {Hv : Hp} : ∀ {vs : List V} {ys : List Str}, Paired (tStr.rep Hv) vs ys → vs = ys.map V.str
  | _, _, .nil => rfl
  | _, _, .cons r p => by
    rw [paired_strs p, show _ = V.str _ from r]
    rfl
theorem sm_join {a : Str} {ys : List Str} (c : (ys.map fun y => y.length).sum + ys.length * a.length ≤ 1000) (h : Sm B Γ t tStr a) (h' : SmL B Γ u tStr ys) :
    Sm B Γ (tM1 (fun x xs H Q => ∃ a p, ∃ ys : List Str, x = .str a ∧ xs = [.ref p] ∧ (SqL K H p (ys.map V.str) ∨ SqT K H p (ys.map V.str)) ∧ (ys.map (·.length)).sum + ys.length * a.length ≤ 16777216 ∧ Q (.str (Txt.join a ys)) H) t u) tStr (Txt.join a ys) := fun σ Hv H w Q k =>
  h σ Hv H w _ fun v Hv1 H1 g1 r1 => ⟨⟨a, r1⟩, h' σ Hv1 H1 (w.grow g1) _ fun p vs Hv2 H2 g2 e2 r2 => ⟨a, p, ys, r1, rfl, .inl (by rw [← paired_strs r2]; exact SqL.of e2), Nat.le_trans c (by decide), k _ _ _ (g1.trans g2) rfl⟩⟩
theorem sm_cut01 {z : Str} {i : Int} (hl : z.length ≤ 1000) (h : Sm B Γ t tStr z) (h' : Sm B Γ u tInt i) : Sm B Γ (tSl rSlS t tNoPart (tPart u)) tStr (cutS z none (some i)) := fun σ Hv H w Q k =>
  h σ Hv H w _ fun v Hv1 H1 g1 r1 => h' σ Hv1 H1 (w.grow g1) _ fun v2 Hv2 H2 g2 r2 => ⟨i, r2, z, r1, Nat.le_trans hl line1000, k _ _ _ (g1.trans g2) rfl⟩
theorem sm_cut10 {z : Str} {i : Int} (hl : z.length ≤ 1000) (h : Sm B Γ t tStr z) (h' : Sm B Γ u tInt i) : Sm B Γ (tSl rSlS t (tPart u) tNoPart) tStr (cutS z (some i) none) := fun σ Hv H w Q k =>
  h σ Hv H w _ fun v Hv1 H1 g1 r1 => h' σ Hv1 H1 (w.grow g1) _ fun v2 Hv2 H2 g2 r2 => ⟨i, r2, z, r1, Nat.le_trans hl line1000, k _ _ _ (g1.trans g2) rfl⟩
theorem smw_str {z : Str} (h : Sm B Γ t tStr z) : SmW B Γ fr (iStr t) tStr (signs z) := fun σ Hv H w R k =>
  h σ Hv H w _ fun v Hv' H' g r => by
    have e : (signs z).length = z.cps.size := by simp [signs]
    refine ⟨z, r, k (Its z) (fun _ => True) _ Hv' H' g (e ▸ walk_str) (fun _ _ _ _ _ => trivial) (fun i H1 v H2 Hv1 hi s1 s2 _ y => ?_)⟩
    obtain ⟨rfl, c, e', rfl⟩ := y
    exact ⟨Hv1, ⟨#[c]⟩, Grow.refl s2, by simp [signs, e'], rfl⟩
end
section
variable {X : Cx} {o e : Expr} {to te : TE}
theorem pe_find {apos pos : Pos} (ho : PE X o to) (he : PE X e te) (hs : starEach [e] X.env = [(false, eval e X.env)] := by rfl) (hbase : attributeBase o "find" X.env (eval o X.env) = eval o X.env := by rfl) (hline : (apos.endLine == pos.line) = true := by rfl) :
    PE X (.Call (.Attribute o "find" apos) [e] [] pos) (tM1 (fun x xs H Q => ∃ a b, x = .str a ∧ xs = [.str b] ∧ Q (.int (Txt.find a b)) H) to te) :=
  pe_m1 F.slot_str_find F.type_str_find mt_find ho he hs hbase hline
theorem pe_zfill {apos pos : Pos} (ho : PE X o to) (he : PE X e te) (hs : starEach [e] X.env = [(false, eval e X.env)] := by rfl) (hbase : attributeBase o "zfill" X.env (eval o X.env) = eval o X.env := by rfl) (hline : (apos.endLine == pos.line) = true := by rfl) :
    PE X (.Call (.Attribute o "zfill" apos) [e] [] pos) (tM1 (fun x xs H Q => ∃ (a : Str) (i : Int), x = .str a ∧ xs = [.int i] ∧ PadOk i = true ∧ Q (.str (Txt.zfill a i)) H) to te) :=
  pe_m1 F.slot_str_zfill F.type_str_zfill mt_zfill ho he hs hbase hline
end
end WM
set_option linter.all false
set_option maxRecDepth 100000
namespace Lm
open WM MM Pm
def mb_figures_of (blocks : BlocksV) : Option (Fl Unit Empty Int Unit) :=
guardO (MulOk blocks.field.width blocks.many) (
some (.rt (((blocks.field.width * blocks.many) + (3 : Int)) / (4 : Int))))
def m_figures_of (blocks : BlocksV) : Option Int := outV (mb_figures_of blocks)
def mL_shown_block_0 (s_1 : Int × PySem.Str) : Option (Fl (Int × PySem.Str) (Int × PySem.Str) PySem.Str Unit) :=
letO (s_1.1 / (16 : Int), s_1.1 % (16 : Int)) fun pr =>
(sAt ("0123456789abcdef" : PySem.Str) pr.2).bind fun y =>
guardO ((y).length + (s_1.2).length ≤ 1000) (
letO (y ++ s_1.2) fun found1 =>
some (.nx (pr.1, found1)))
def mK_shown_block_0 (blocks : BlocksV) (s_2 : Int × PySem.Str) : Option (Fl (Unit) (Empty) PySem.Str Unit) :=
(m_figures_of blocks).bind fun y1 =>
guardO (0 ≤ y1 ∧ y1 ≤ 1000) (
some (.rt (PySem.Txt.zfill s_2.2 y1)))
def mb_shown_block (blocks : BlocksV) (block : Int) : Option (Fl Unit Empty PySem.Str Unit) :=
letO ("" : PySem.Str) fun found =>
thenO (whileO (fun (s_ : Int × PySem.Str) => some (decide ((0 : Int) < s_.1))) (mL_shown_block_0) 10000 (block, found)) (mK_shown_block_0 blocks)
def m_shown_block (blocks : BlocksV) (block : Int) : Option PySem.Str := outV (mb_shown_block blocks block)
def mL_read_block_0 (x : PySem.Str) (s_ : Int) : Option (Fl (Int) (Int) Int Unit) :=
guardO ((x).length = 1) (
if (!sIn x ("0123456789abcdef" : PySem.Str)) then (
some (.er (11, []) ())) else
guardO (ShlOk s_ (4 : Int)) (
letO (PySem.Builtin.bitOr (s_ * 2 ^ (4 : Int).toNat) (PySem.Txt.find ("0123456789abcdef" : PySem.Str) x)) fun block =>
some (.nx block)))
def mK_read_block_0 (blocks : BlocksV) (s_1 : Int) : Option (Fl (Unit) (Empty) Int Unit) :=
(m_Blocks_good blocks s_1).bind fun y1 =>
if (!y1) then (
some (.er (11, []) ())) else
some (.rt s_1)
def mb_read_block (blocks : BlocksV) (text : PySem.Str) : Option (Fl Unit Empty Int Unit) :=
guardO ((text).length ≤ 1000) (
(m_figures_of blocks).bind fun y =>
if (!decide (((text).length : Int) = y)) then (
some (.er (11, []) ())) else
thenO (forO (mL_read_block_0) (MM.signs text) (0 : Int)) (mK_read_block_0 blocks))
def m_read_block (blocks : BlocksV) (text : PySem.Str) : Option (Except MM.Exn Int) := outX (mb_read_block blocks text)
def mK_cell_0 (s_ : Int) : Option (Fl (Unit) (Empty) Int Unit) :=
guardO (MulOk s_ s_) (
some (.rt ((s_ * s_) % (1000003 : Int))))
def mb_cell (script : (List Int)) (k : Int) : Option (Fl Unit Empty Int Unit) :=
if (decide (k < ((script).length : Int))) then (
guardO (0 ≤ k) (
(ixO script k).bind fun y =>
some (.rt y))) else
letO (((7919 : Int) * k) + (101 : Int)) fun number_here =>
thenO (if (decide ((0 : Int) < ((script).length : Int))) then (
guardO (0 < ((script).length : Int)) (
guardO (0 ≤ (((7 : Int) * k) % ((script).length : Int))) (
(ixO script (((7 : Int) * k) % ((script).length : Int))).bind fun y1 =>
guardO (MulOk (y1 % (1000003 : Int)) (k + (3 : Int))) (
letO (number_here + ((y1 % (1000003 : Int)) * (k + (3 : Int)))) fun number_here1 =>
some (.nx number_here1))))) else (
some (.nx number_here))) mK_cell_0
def m_cell (script : (List Int)) (k : Int) : Option Int := outV (mb_cell script k)
def mb_rule (cell_here : Int) : Option (Fl Unit Empty Int Unit) :=
(ixO ([19, 25, 37, 41, 67, 97, 131, 193, 285, 369] : List Int) (cell_here % (10 : Int))).bind fun y =>
some (.rt y)
def m_rule (cell_here : Int) : Option Int := outV (mb_rule cell_here)
def mb_hex (block : Int) (many : Int) : Option (Fl Unit Empty PySem.Str Unit) :=
guardO (RngOk many) (
guardO (((rangeL 0 many)).length ≤ 1000) (
(mapO (fun z => guardO (0 ≤ ((4 : Int) * ((many - (1 : Int)) - z))) ( (sAt ("0123456789abcdef" : PySem.Str) (PySem.Builtin.bitAnd (block / 2 ^ ((4 : Int) * ((many - (1 : Int)) - z)).toNat) (15 : Int))).bind fun y => some y)) (rangeL 0 many)).bind fun zs =>
guardO (((zs).map fun y_ => y_.length).sum + (zs).length * (("" : PySem.Str)).length ≤ 1000) (
some (.rt (PySem.Txt.join ("" : PySem.Str) zs)))))
def m_hex (block : Int) (many : Int) : Option PySem.Str := outV (mb_hex block many)
def mb_sign (cell_here : Int) : Option (Fl Unit Empty PySem.Str Unit) :=
letO (" !\"#$&'()*+,-./0123456789:;<=>?@ABCDEFGHIJKLMNOPQRSTUVWXYZ[\\]^_`" : PySem.Str) fun someV =>
guardO ((someV).length + (("abcdefghijklmnopqrstuvwxyz{|}~\n\t" : PySem.Str)).length ≤ 1000) (
letO (someV ++ ("abcdefghijklmnopqrstuvwxyz{|}~\n\t" : PySem.Str)) fun someV1 =>
(sAt someV1 (cell_here % (96 : Int))).bind fun y =>
some (.rt y))
def m_sign (cell_here : Int) : Option PySem.Str := outV (mb_sign cell_here)
def mL_number_0 (x : PySem.Str) (s_ : Int) : Option (Fl (Int) (Int) (Option Int) Unit) :=
guardO ((x).length = 1) (
if (!sIn x ("0123456789abcdef" : PySem.Str)) then (
some (.rt (none : (Option Int)))) else
letO (((16 : Int) * s_) + (PySem.Txt.find ("0123456789abcdef" : PySem.Str) x)) fun number_here =>
some (.nx number_here))
def mK_number_0 (limit : Int) (s_1 : Int) : Option (Fl (Unit) (Empty) (Option Int) Unit) :=
if (decide (limit ≤ s_1)) then (
some (.rt (none : (Option Int)))) else
some (.rt (some s_1))
def mb_number (line : PySem.Str) (many : Int) (limit : Int) : Option (Fl Unit Empty (Option Int) Unit) :=
guardO ((line).length ≤ 1000) (
if (!decide (((line).length : Int) = many)) then (
some (.rt (none : (Option Int)))) else
thenO (forO (mL_number_0) (MM.signs line) (0 : Int)) (mK_number_0 limit))
def m_number (line : PySem.Str) (many : Int) (limit : Int) : Option (Option Int) := outV (mb_number line many limit)
def mb_spoiled (line : PySem.Str) (way : Int) (cell_here : Int) (sign_here : PySem.Str) : Option (Fl Unit Empty PySem.Str Unit) :=
guardO ((line).length ≤ 1000) (
guardO (0 < ((line).length : Int)) (
letO (cell_here % ((line).length : Int)) fun atV =>
if (decide (way = (1 : Int))) then (
guardO ((line).length ≤ 1000) (
guardO (((L2.cutS line none (some atV))).length + (sign_here).length ≤ 1000) (
guardO ((line).length ≤ 1000) (
guardO ((((L2.cutS line none (some atV)) ++ sign_here)).length + ((L2.cutS line (some (atV + (1 : Int))) none)).length ≤ 1000) (
some (.rt (((L2.cutS line none (some atV)) ++ sign_here) ++ (L2.cutS line (some (atV + (1 : Int))) none)))))))) else
if (decide (way = (2 : Int))) then (
guardO ((line).length ≤ 1000) (
guardO ((line).length ≤ 1000) (
guardO (((L2.cutS line none (some atV))).length + ((L2.cutS line (some (atV + (1 : Int))) none)).length ≤ 1000) (
some (.rt ((L2.cutS line none (some atV)) ++ (L2.cutS line (some (atV + (1 : Int))) none))))))) else
if (decide (way = (3 : Int))) then (
guardO ((line).length ≤ 1000) (
guardO (0 < (((line).length : Int) + (1 : Int))) (
letO (cell_here % (((line).length : Int) + (1 : Int))) fun atV1 =>
guardO ((line).length ≤ 1000) (
guardO (((L2.cutS line none (some atV1))).length + (sign_here).length ≤ 1000) (
guardO ((line).length ≤ 1000) (
guardO ((((L2.cutS line none (some atV1)) ++ sign_here)).length + ((L2.cutS line (some atV1) none)).length ≤ 1000) (
some (.rt (((L2.cutS line none (some atV1)) ++ sign_here) ++ (L2.cutS line (some atV1) none)))))))))) else
if (decide (way = (4 : Int))) then (
guardO ((line).length ≤ 1000) (
some (.rt (PySem.Txt.upper line)))) else
if (decide (way = (5 : Int))) then (
(sAt ("0123456789abcdef" : PySem.Str) (cell_here % (16 : Int))).bind fun y =>
guardO ((line).length ≤ 1000) (
guardO ((y).length + ((L2.cutS line (some (1 : Int)) none)).length ≤ 1000) (
some (.rt (y ++ (L2.cutS line (some (1 : Int)) none)))))) else
if (decide (way = (6 : Int))) then (
some (.rt ("" : PySem.Str))) else
some (.rt line)))
def m_spoiled (line : PySem.Str) (way : Int) (cell_here : Int) (sign_here : PySem.Str) : Option PySem.Str := outV (mb_spoiled line way cell_here sign_here)
def mK_read_0 (due : (Option Int)) (s_1 : Int) : Option (Fl (Unit) (Empty) Bool Unit) :=
some (.rt (true && ((!false) && (decide ((some s_1) = due)))))
def mb_read (blocks : BlocksV) (line : PySem.Str) (due : (Option Int)) : Option (Fl Unit Empty Bool Unit) :=
thenO (tryO (
callO (m_read_block blocks line) () fun found =>
some (.nx found)) fun (ex : MM.Exn) (s_ : Unit) => if ex.1 ∈ ([0, 1, 2, 3, 4, 5, 6, 7, 8, 9, 10, 11] : List Nat) then (
some (.rt ((due).isNone && ((decide ((ex).1 ∈ ([11] : List Nat))) && ((decide ((ex).1 ∈ ([0, 1, 2, 3, 4, 5, 6, 7, 8, 9, 10, 11] : List Nat))) && (!(decide ((ex).1 ∈ ([6] : List Nat))))))))) else none) (mK_read_0 due)
def m_read (blocks : BlocksV) (line : PySem.Str) (due : (Option Int)) : Option Bool := outV (mb_read blocks line due)
def mK_law_1 (script : (List Int)) (y1 : Int) (many : Int) (limit : Int) (figures : Int) (y4 : Int) (s_1 : Int) : Option (Fl (Unit) (Empty) Bool Unit) :=
(okO (m_Field___init__ y1)).bind fun y5 =>
(okO (m_Blocks___init__ y5 many)).bind fun y6 =>
(m_hex s_1 figures).bind fun y7 =>
(m_shown_block y6 s_1).bind fun y8 =>
(orO (!true) ((orO (!decide (y8 = y7)) ((m_read y6 y8 (some s_1)).bind fun y9 => some (!y9))).bind fun b => some b)).bind fun b1 =>
if b1 then (
some (.rt false)) else
(m_cell script (4 : Int)).bind fun y10 =>
(m_cell script (5 : Int)).bind fun y11 =>
(m_sign y11).bind fun y12 =>
(m_spoiled y7 ((y4 / (5 : Int)) % (8 : Int)) y10 y12).bind fun y13 =>
(m_number y13 figures limit).bind fun y14 =>
(m_read y6 y13 y14).bind fun y15 =>
some (.rt y15)
def mK_law_0 (script : (List Int)) (y1 : Int) (many : Int) (limit : Int) (figures : Int) (y4 : Int) (s_ : Int) : Option (Fl (Unit) (Empty) Bool Unit) :=
thenO (if (decide ((y4 % (5 : Int)) = (2 : Int))) then (
letO (limit - (1 : Int)) fun block1 =>
some (.nx block1)) else (
some (.nx s_))) (mK_law_1 script y1 many limit figures y4)
def mb_law (script : (List Int)) : Option (Fl Unit Empty Bool Unit) :=
(m_cell script (0 : Int)).bind fun y =>
(m_rule y).bind fun y1 =>
(m_cell script (1 : Int)).bind fun y2 =>
letO ((1 : Int) + (y2 % (16 : Int))) fun many =>
letO (((PySem.Builtin.Int.intBits y1 : Nat) : Int) - (1 : Int)) fun width =>
guardO (MulOk width many) (
guardO (ShlOk (1 : Int) (width * many)) (
letO ((1 : Int) * 2 ^ (width * many).toNat) fun limit =>
guardO (MulOk width many) (
letO (((width * many) + (3 : Int)) / (4 : Int)) fun figures =>
(m_cell script (2 : Int)).bind fun y3 =>
guardO (0 < limit) (
guardO (MulWOk (y3 % limit) (1000000000000000000000000000000000000007 : Int)) (
guardO (0 < limit) (
letO (((y3 % limit) * (1000000000000000000000000000000000000007 : Int)) % limit) fun block =>
(m_cell script (3 : Int)).bind fun y4 =>
thenO (if (decide ((y4 % (5 : Int)) = (1 : Int))) then (
some (.nx (0 : Int))) else (
some (.nx block))) (mK_law_0 script y1 many limit figures y4)))))))
def m_law (script : (List Int)) : Option Bool := outV (mb_law script)
end Lm
set_option linter.all false
namespace MM
section
variable {S S' C C' R T T' α β : Type}
@[simp] theorem bind_some {x : α} {f : α → Option β} : (some x).bind f = f x := rfl
@[simp] theorem bind_none {f : α → Option β} : (none : Option α).bind f = none := rfl
theorem guardO_pos {p : Prop} [Decidable p] {k : Option β} (h : p) : guardO p k = k := if_pos h
@[simp] theorem letO_def {v : α} {k : α → Option β} : letO v k = k v := rfl
@[simp] theorem okO_ok {ε : Type} {y : α} : okO (some (.ok y) : Option (Except ε α)) = some y := rfl
@[simp] theorem callO_ok {y : α} {t : T} {k : α → Option (Fl S C R T)} : callO (some (.ok y)) t k = k y := rfl
@[simp] theorem callO_err {e : Exn} {t : T} {k : α → Option (Fl S C R T)} : callO (some (.error e)) t k = some (.er e t) := rfl
@[simp] theorem thenO_nx {s : S} {k : S → Option (Fl S' C R T)} : thenO (some (.nx s)) k = k s := rfl
@[simp] theorem thenO_rt {r : R} {k : S → Option (Fl S' C R T)} : thenO (some (.rt r)) k = some (.rt r) := rfl
@[simp] theorem thenO_bk {r : C} {k : S → Option (Fl S' C R T)} : thenO (some (.bk r)) k = some (.bk r) := rfl
@[simp] theorem thenO_ct {r : C} {k : S → Option (Fl S' C R T)} : thenO (some (.ct r)) k = some (.ct r) := rfl
@[simp] theorem thenO_er {e : Exn} {t : T} {k : S → Option (Fl S' C R T)} : thenO (some (.er e t)) k = some (.er e t) := rfl
@[simp] theorem tryO_nx {s : S} {h : Exn → T' → Option (Fl S C R T)} : tryO (some (.nx s)) h = some (.nx s) := rfl
@[simp] theorem tryO_rt {r : R} {h : Exn → T' → Option (Fl S C R T)} : tryO (some (.rt r) : Option (Fl S C R T')) h = some (.rt r) := rfl
@[simp] theorem tryO_er {e : Exn} {t : T'} {h : Exn → T' → Option (Fl S C R T)} : tryO (some (.er e t) : Option (Fl S C R T')) h = h e t := rfl
@[simp] theorem outV_rt {r : R} : outV (some (.rt r)) = some r := rfl
@[simp] theorem outU_rt {r : Unit} : outU (some (.rt r)) = some () := rfl
@[simp] theorem outU_nx {r : Unit} : outU (some (.nx r)) = some () := rfl
@[simp] theorem outX_rt {r : R} : outX (some (.rt r)) = some (.ok r) := rfl
@[simp] theorem outX_er {e : Exn} {t : Unit} : outX (some (.er e t) : Option (Fl Unit Empty R Unit)) = some (.error e) := rfl
@[simp] theorem outXU_rt {r : Unit} : outXU (some (.rt r)) = some (.ok ()) := rfl
@[simp] theorem outXU_nx {r : Unit} : outXU (some (.nx r)) = some (.ok ()) := rfl
@[simp] theorem outXU_er {e : Exn} {t : Unit} : outXU (some (.er e t)) = some (.error e) := rfl
@[simp] theorem outI_nx {r : S} : WM.outI (some (.nx r) : Option (Fl S Empty R Unit)) = some (.ok r) := rfl
@[simp] theorem outI_er {e : Exn} {t : Unit} : WM.outI (some (.er e t) : Option (Fl S Empty R Unit)) = some (.error e) := rfl
@[simp] theorem andO_true {b : Option Bool} : andO true b = b := rfl
@[simp] theorem andO_false {b : Option Bool} : andO false b = some false := rfl
@[simp] theorem orO_true {b : Option Bool} : orO true b = some true := rfl
@[simp] theorem orO_false {b : Option Bool} : orO false b = b := rfl
@[simp] theorem forO_nil {f : α → S → Option (Fl S S R T)} {s : S} : (forO f [] s : Option (Fl S C R T)) = some (.nx s) := rfl
theorem forO_cons_nx {f : α → S → Option (Fl S S R T)} {x : α} {xs : List α} {s s' : S} (h : f x s = some (.nx s')) : (forO f (x :: xs) s : Option (Fl S C R T)) = forO f xs s' := by
  simp only [forO, h]
  rfl
theorem ixO_eq {xs : List α} {i : Int} {x : α} (h0 : 0 ≤ i) (h : xs[i.toNat]? = some x) : ixO xs i = some x := by unfold ixO; rw [if_pos h0, h]
theorem ixO_getD {xs : List α} {i : Int} {d : α} (h0 : 0 ≤ i) (h : i < xs.length) : ixO xs i = some (xs.getD i.toNat d) := ixO_eq h0 (by
  rw [List.getD_eq_getElem?_getD, List.getElem?_eq_getElem (by omega)]
  rfl)
theorem forO_inv {f : α → S → Option (Fl S S R T)} (I : Nat → S → Prop) {xs : List α} {s0 : S} (h0 : I 0 s0) (hs : ∀ (i : Nat) (x : α) (s : S), xs[i]? = some x → I i s → ∃ s', (f x s = some (.nx s') ∨ f x s = some (.ct s')) ∧ I (i + 1) s') :
    ∃ s, (forO f xs s0 : Option (Fl S C R T)) = some (.nx s) ∧ I xs.length s := by
  induction xs generalizing s0 I with
  | nil => exact ⟨s0, rfl, h0⟩
  | cons x xs ih =>
    obtain ⟨s', h1, h2⟩ := hs 0 x s0 rfl h0
    obtain ⟨s, h3, h4⟩ := ih (fun i => I (i + 1)) h2 fun i y s e h => hs (i + 1) y s (by simpa using e) h
    refine ⟨s, ?_, h4⟩
    rcases h1 with h1 | h1
    · simp only [forO, h1]
      exact h3
    · simp only [forO, h1]
      exact h3
theorem whileO_inv {c : S → Option Bool} {f : S → Option (Fl S S R T)} (I : S → Prop) (μ : S → Nat) (b : S → Bool) {n : Nat} {s0 : S} (h0 : I s0) (hn : μ s0 < n) (hc : ∀ s, I s → c s = some (b s)) (hs : ∀ s, I s → b s = true → ∃ s', (f s = some (.nx s') ∨ f s = some (.ct s')) ∧ I s' ∧ μ s' < μ s) :
    ∃ s, (whileO c f n s0 : Option (Fl S C R T)) = some (.nx s) ∧ I s ∧ b s = false := by
  induction n generalizing s0 with
  | zero => omega
  | succ n ih =>
    cases e : b s0 with
    | false => exact ⟨s0, by simp only [whileO, hc s0 h0, e]; rfl, h0, e⟩
    | true =>
      obtain ⟨s', h1, h2, h3⟩ := hs s0 h0 e
      obtain ⟨s, h4, h5⟩ := ih h2 (by omega)
      refine ⟨s, ?_, h5⟩
      rcases h1 with h1 | h1
      · simp only [whileO, hc s0 h0, e, bind_some, if_true, h1]
        exact h4
      · simp only [whileO, hc s0 h0, e, bind_some, if_true, h1]
        exact h4
theorem mapO_some {f : α → Option β} {g : α → β} {xs : List α} (h : ∀ x ∈ xs, f x = some (g x)) : mapO f xs = some (xs.map g) := mapO_eq h
end
end MM
set_option Elab.async false
set_option maxRecDepth 100000
namespace MF
def wd (R : Nat) : Nat := Nat.log2 R
def last (R : Nat) : Nat := 2 ^ wd R - 1
def dbl (R x : Nat) : Nat := if 2 * x < 2 ^ wd R then 2 * x else (2 * x) ^^^ R
def dp (R : Nat) : Nat → Nat → Nat
  | 0, x => x
  | k + 1, x => dbl R (dp R k x)
def pw (R k : Nat) : Nat := dp R k 1
def pd (R : Nat) : Nat → Nat → Nat → Nat
  | 0, _, _ => 0
  | n + 1, x, y => (if y % 2 = 1 then x else 0) ^^^ pd R n (dbl R x) (y / 2)
theorem xor_cancel (a b : Nat) : a ^^^ b ^^^ b = a := by rw [Nat.xor_assoc, Nat.xor_self, Nat.xor_zero]
theorem xor_left (a b c : Nat) : a ^^^ (b ^^^ c) = b ^^^ (a ^^^ c) := by rw [← Nat.xor_assoc, Nat.xor_comm a b, Nat.xor_assoc]
theorem xor4 (a b c d : Nat) : (a ^^^ b) ^^^ (c ^^^ d) = (a ^^^ c) ^^^ (b ^^^ d) := by
  rw [Nat.xor_assoc, Nat.xor_assoc, xor_left b c d]
theorem xor_eq_zero {a b : Nat} (h : a ^^^ b = 0) : a = b := by
  have := congrArg (· ^^^ b) h
  simp only [xor_cancel, Nat.zero_xor] at this
  exact this
theorem xor_lt {a b w : Nat} (ha : a < 2 ^ w) (hb : b < 2 ^ w) : a ^^^ b < 2 ^ w := Nat.xor_lt_two_pow ha hb
theorem xor_mod2 (a b : Nat) : (a ^^^ b) % 2 = (a % 2 + b % 2) % 2 := by
  have h := Nat.xor_mod_two_eq_one (a := a) (b := b)
  have h1 := Nat.mod_two_eq_zero_or_one (a ^^^ b)
  have h2 := Nat.mod_two_eq_zero_or_one a
  have h3 := Nat.mod_two_eq_zero_or_one b
  rcases h1 with h1 | h1 <;> rcases h2 with h2 | h2 <;> rcases h3 with h3 | h3 <;> simp [h1, h2, h3] at h ⊢
theorem xor_div2 (a b : Nat) : (a ^^^ b) / 2 = a / 2 ^^^ b / 2 := Nat.xor_div_two
theorem xor_mul2 (a b : Nat) : 2 * (a ^^^ b) = 2 * a ^^^ 2 * b := by
  have := Nat.shiftLeft_xor_distrib (a := a) (b := b) (i := 1)
  simp only [Nat.shiftLeft_eq, Nat.pow_one] at this
  rw [Nat.mul_comm 2, Nat.mul_comm 2, Nat.mul_comm 2]
  exact this
theorem lt_of_bit {x w : Nat} (h : x < 2 ^ (w + 1)) (hb : x.testBit w = false) : x < 2 ^ w := by
  refine Nat.lt_pow_two_of_testBit x fun i hi => ?_
  by_cases e : i = w
  · rw [e]; exact hb
  · exact Nat.testBit_lt_two_pow (Nat.lt_of_lt_of_le h (Nat.pow_le_pow_right (by omega) (by omega)))
theorem bit_of {x w : Nat} (h1 : 2 ^ w ≤ x) (h2 : x < 2 ^ (w + 1)) : x.testBit w = true := by
  cases e : x.testBit w with
  | true => rfl
  | false => exact absurd (lt_of_bit h2 e) (by omega)
theorem two_q_xor (q : Nat) : 2 * q ^^^ 1 = 2 * q + 1 := by
  have h1 := xor_mod2 (2 * q) 1
  have h2 := xor_div2 (2 * q) 1
  have e : (1 : Nat) / 2 = 0 := rfl
  rw [e, Nat.xor_zero] at h2
  omega
structure Good (R : Nat) : Prop where
  lo : 16 ≤ R
  hi : R < 512
  odd : R % 2 = 1
  back : pw R (last R) = 1
  first : ∀ k, 0 < k → k < last R → pw R k ≠ 1
structure Rng (R : Nat) : Prop where
  lo : 16 ≤ R
  hi : R < 512
  odd : R % 2 = 1
theorem Good.rng {R : Nat} (g : Good R) : Rng R := ⟨g.lo, g.hi, g.odd⟩
section
variable {R : Nat}
theorem Rng.le (g : Rng R) : 2 ^ wd R ≤ R := Nat.log2_self_le (by have := g.lo; omega)
theorem Rng.lt (g : Rng R) : R < 2 ^ (wd R + 1) := Nat.lt_log2_self
theorem Rng.w4 (g : Rng R) : 4 ≤ wd R := (Nat.le_log2 (by have := g.lo; omega)).mpr g.lo
theorem Rng.w8 (g : Rng R) : wd R ≤ 8 := by
  have := (Nat.log2_lt (n := R) (k := 9) (by have := g.lo; omega)).mpr g.hi
  unfold wd; omega
theorem Rng.p16 (g : Rng R) : 16 ≤ 2 ^ wd R := Nat.le_trans (by decide : 16 ≤ 2 ^ 4) (Nat.pow_le_pow_right (by omega) g.w4)
theorem Rng.p256 (g : Rng R) : 2 ^ wd R ≤ 256 := Nat.le_trans (Nat.pow_le_pow_right (by omega) g.w8) (by decide : 2 ^ 8 ≤ 256)
theorem last1 (g : Rng R) : last R + 1 = 2 ^ wd R := by have := g.p16; unfold last; omega
theorem Rng.l15 (g : Rng R) : 15 ≤ last R := by have := g.p16; unfold last; omega
theorem Rng.l255 (g : Rng R) : last R ≤ 255 := by have := g.p256; unfold last; omega
theorem pow_s (w : Nat) : 2 ^ (w + 1) = 2 * 2 ^ w := by rw [Nat.pow_succ, Nat.mul_comm]
theorem dbl_eq {x : Nat} (hx : x < 2 ^ wd R) : dbl R x = 2 * x ^^^ (if (2 * x).testBit (wd R) then R else 0) := by
  have hs := pow_s (wd R)
  unfold dbl
  by_cases h : 2 * x < 2 ^ wd R
  · rw [if_pos h, if_neg (by rw [Nat.testBit_lt_two_pow h]; simp), Nat.xor_zero]
  · rw [if_neg h, if_pos (bit_of (by omega) (by omega))]
theorem dbl_lt (g : Rng R) {x : Nat} (hx : x < 2 ^ wd R) : dbl R x < 2 ^ wd R := by
  have hs := pow_s (wd R)
  rw [dbl_eq hx]
  refine lt_of_bit ?_ ?_
  · refine xor_lt (by omega) ?_
    split
    · exact g.lt
    · exact Nat.two_pow_pos _
  · rw [Nat.testBit_xor]
    cases e : (2 * x).testBit (wd R) with
    | true => simp [bit_of g.le g.lt]
    | false => simp
theorem dbl_add (g : Rng R) {x y : Nat} (hx : x < 2 ^ wd R) (hy : y < 2 ^ wd R) : dbl R (x ^^^ y) = dbl R x ^^^ dbl R y := by
  rw [dbl_eq hx, dbl_eq hy, dbl_eq (xor_lt hx hy), xor_mul2, Nat.testBit_xor, xor4]
  congr 1
  cases (2 * x).testBit (wd R) <;> cases (2 * y).testBit (wd R) <;> simp
theorem dbl_zero : dbl R 0 = 0 := by
  unfold dbl
  rw [if_pos (by rw [Nat.mul_zero]; exact Nat.two_pow_pos _)]
theorem dbl_ne (g : Rng R) {x : Nat} (hx : x < 2 ^ wd R) (h : dbl R x = 0) : x = 0 := by
  unfold dbl at h
  split at h
  · omega
  · have e := xor_eq_zero h
    have := g.odd
    omega
theorem dbl_inj (g : Rng R) {x y : Nat} (hx : x < 2 ^ wd R) (hy : y < 2 ^ wd R) (h : dbl R x = dbl R y) : x = y := by
  refine xor_eq_zero (dbl_ne g (xor_lt hx hy) ?_)
  rw [dbl_add g hx hy, h, Nat.xor_self]
theorem dp_lt (g : Rng R) {x : Nat} (hx : x < 2 ^ wd R) : ∀ k, dp R k x < 2 ^ wd R
  | 0 => hx
  | k + 1 => dbl_lt g (dp_lt g hx k)
theorem dp_zero : ∀ k, dp R k 0 = 0
  | 0 => rfl
  | k + 1 => by
    show dbl R (dp R k 0) = 0
    rw [dp_zero k, dbl_zero]
theorem dp_dbl {x : Nat} : ∀ k, dp R k (dbl R x) = dbl R (dp R k x)
  | 0 => rfl
  | k + 1 => congrArg (dbl R) (dp_dbl k)
theorem dp_add' {x : Nat} (j : Nat) : ∀ k, dp R (j + k) x = dp R k (dp R j x)
  | 0 => rfl
  | k + 1 => congrArg (dbl R) (dp_add' j k)
theorem dp_inj (g : Rng R) {x y : Nat} (hx : x < 2 ^ wd R) (hy : y < 2 ^ wd R) : ∀ k, dp R k x = dp R k y → x = y
  | 0, h => h
  | k + 1, h => dp_inj g hx hy k (dbl_inj g (dp_lt g hx k) (dp_lt g hy k) h)
theorem one_lt (g : Rng R) : 1 < 2 ^ wd R := by have := g.p16; omega
theorem pw_lt (g : Rng R) (k : Nat) : pw R k < 2 ^ wd R := dp_lt g (one_lt g) k
theorem pw_ne (g : Rng R) : ∀ k, pw R k ≠ 0
  | 0 => fun h => by cases h
  | k + 1 => fun h => pw_ne g k (dbl_ne g (pw_lt g k) h)
theorem pw_add (j k : Nat) : pw R (j + k) = dp R k (pw R j) := dp_add' j k
theorem pd_zero : ∀ (n x : Nat), pd R n x 0 = 0
  | 0, _ => rfl
  | n + 1, x => by
    show (if 0 % 2 = 1 then x else 0) ^^^ pd R n (dbl R x) (0 / 2) = 0
    rw [Nat.zero_div, pd_zero n]
    simp
theorem pd_zeroL : ∀ (n y : Nat), pd R n 0 y = 0
  | 0, _ => rfl
  | n + 1, y => by
    show (if y % 2 = 1 then 0 else 0) ^^^ pd R n (dbl R 0) (y / 2) = 0
    rw [dbl_zero, pd_zeroL n]
    simp
theorem pd_addR : ∀ (n x y y' : Nat), pd R n x (y ^^^ y') = pd R n x y ^^^ pd R n x y'
  | 0, _, _, _ => (Nat.xor_self 0).symm
  | n + 1, x, y, y' => by
    show (if (y ^^^ y') % 2 = 1 then x else 0) ^^^ pd R n (dbl R x) ((y ^^^ y') / 2) = ((if y % 2 = 1 then x else 0) ^^^ pd R n (dbl R x) (y / 2)) ^^^ ((if y' % 2 = 1 then x else 0) ^^^ pd R n (dbl R x) (y' / 2))
    rw [xor_div2, pd_addR n, xor4]
    congr 1
    rw [xor_mod2]
    rcases Nat.mod_two_eq_zero_or_one y with h | h <;> rcases Nat.mod_two_eq_zero_or_one y' with h' | h' <;> simp [h, h']
theorem pd_lt (g : Rng R) : ∀ (n : Nat) {x : Nat} (y : Nat), x < 2 ^ wd R → pd R n x y < 2 ^ wd R
  | 0, _, _, _ => Nat.two_pow_pos _
  | n + 1, x, y, hx => by
    show (if y % 2 = 1 then x else 0) ^^^ pd R n (dbl R x) (y / 2) < _
    refine xor_lt ?_ (pd_lt g n _ (dbl_lt g hx))
    split
    · exact hx
    · exact Nat.two_pow_pos _
theorem pd_dbl (g : Rng R) : ∀ (n : Nat) {x : Nat} (y : Nat), x < 2 ^ wd R → pd R n (dbl R x) y = dbl R (pd R n x y)
  | 0, _, _, _ => dbl_zero.symm
  | n + 1, x, y, hx => by
    show (if y % 2 = 1 then dbl R x else 0) ^^^ pd R n (dbl R (dbl R x)) (y / 2) = dbl R ((if y % 2 = 1 then x else 0) ^^^ pd R n (dbl R x) (y / 2))
    rw [pd_dbl g n _ (dbl_lt g hx)]
    by_cases h : y % 2 = 1
    · rw [if_pos h, if_pos h, dbl_add g hx (pd_lt g n _ (dbl_lt g hx))]
    · rw [if_neg h, if_neg h, Nat.zero_xor, Nat.zero_xor]
theorem pd_dp (g : Rng R) (n : Nat) {x : Nat} (y : Nat) (hx : x < 2 ^ wd R) : ∀ k, pd R n (dp R k x) y = dp R k (pd R n x y)
  | 0 => rfl
  | k + 1 => by
    show pd R n (dbl R (dp R k x)) y = dbl R (dp R k (pd R n x y))
    rw [pd_dbl g n y (dp_lt g hx k), pd_dp g n y hx k]
theorem pd_more : ∀ (n m x y : Nat), y < 2 ^ n → pd R (n + m) x y = pd R n x y
  | 0, m, x, y, h => by
    have : y = 0 := by have : 2 ^ 0 = 1 := rfl; omega
    rw [this, pd_zero, pd_zero]
  | n + 1, m, x, y, h => by
    rw [show n + 1 + m = (n + m) + 1 by omega]
    show (if y % 2 = 1 then x else 0) ^^^ pd R (n + m) (dbl R x) (y / 2) = (if y % 2 = 1 then x else 0) ^^^ pd R n (dbl R x) (y / 2)
    rw [pd_more n m _ _ (by have := pow_s n; omega)]
theorem pd_fuel {n m x y : Nat} (hn : y < 2 ^ n) (hm : y < 2 ^ m) : pd R n x y = pd R m x y := by
  rw [← pd_more n m x y hn, Nat.add_comm, pd_more m n x y hm]
theorem pd_even (n x y : Nat) : pd R (n + 1) x (2 * y) = pd R n (dbl R x) y := by
  show (if 2 * y % 2 = 1 then x else 0) ^^^ pd R n (dbl R x) (2 * y / 2) = _
  rw [if_neg (by omega), Nat.zero_xor, show 2 * y / 2 = y by omega]
theorem pd_one (n x : Nat) : pd R (n + 1) x 1 = x := by
  show (if 1 % 2 = 1 then x else 0) ^^^ pd R n (dbl R x) (1 / 2) = x
  rw [if_pos rfl, show 1 / 2 = 0 from rfl, pd_zero, Nat.xor_zero]
theorem pd_pow : ∀ (k n x : Nat), k < n → pd R n x (2 ^ k) = dp R k x
  | 0, n + 1, x, _ => pd_one n x
  | k + 1, n + 1, x, h => by
    rw [pow_s, pd_even, pd_pow k n _ (by omega), dp_dbl]
    rfl
theorem pd_1 (n : Nat) : ∀ k m, 2 ^ k * m < 2 ^ wd R → m < 2 ^ n → pd R n (2 ^ k) m = 2 ^ k * m := by
  induction n with
  | zero =>
    intro k m _ h
    have : m = 0 := by have : 2 ^ 0 = 1 := rfl; omega
    subst this
    simp [pd]
  | succ n ih =>
    intro k m h hm
    show (if m % 2 = 1 then 2 ^ k else 0) ^^^ pd R n (dbl R (2 ^ k)) (m / 2) = _
    by_cases h0 : m / 2 = 0
    · rw [h0, pd_zero, Nat.xor_zero]
      have : m = 0 ∨ m = 1 := by omega
      rcases this with rfl | rfl <;> simp
    · have hs := pow_s k
      have hle : 2 ^ k * 2 ≤ 2 ^ k * m := Nat.mul_le_mul_left _ (by omega)
      have e : dbl R (2 ^ k) = 2 ^ (k + 1) := by
        unfold dbl
        rw [if_pos (by omega), hs]
      have e2 : 2 ^ (k + 1) * (m / 2) = 2 ^ k * (2 * (m / 2)) := by rw [hs, Nat.mul_comm 2, Nat.mul_assoc]
      have hle2 : 2 ^ k * (2 * (m / 2)) ≤ 2 ^ k * m := Nat.mul_le_mul_left _ (by omega)
      rw [e, ih (k + 1) (m / 2) (by omega) (by have := pow_s n; omega), e2]
      have em : m = 2 * (m / 2) + m % 2 := by omega
      by_cases ho : m % 2 = 1
      · rw [if_pos ho, Nat.xor_comm]
        have z := Nat.shiftLeft_xor_distrib (a := 2 * (m / 2)) (b := 1) (i := k)
        simp only [Nat.shiftLeft_eq] at z
        rw [Nat.one_mul, two_q_xor] at z
        rw [Nat.mul_comm (2 ^ k), ← z, ← show m = 2 * (m / 2) + 1 by omega, Nat.mul_comm]
      · rw [if_neg ho, Nat.zero_xor, ← show m = 2 * (m / 2) by omega]
theorem pd_1_all {n y : Nat} (hy : y < 2 ^ wd R) (hn : y < 2 ^ n) : pd R n 1 y = y := by
  have := pd_1 (R := R) n 0 y (by simpa using hy) hn
  simpa using this
theorem pd_1R (g : Rng R) {n : Nat} (hn : wd R < n) : pd R n 1 R = 0 := by
  have hs := pow_s (wd R)
  have hR : R = 2 ^ wd R ^^^ (R ^^^ 2 ^ wd R) := by rw [Nat.xor_comm R, ← Nat.xor_assoc, Nat.xor_self, Nat.zero_xor]
  have hb : R ^^^ 2 ^ wd R < 2 ^ wd R := by
    refine lt_of_bit (xor_lt g.lt (by have := Nat.two_pow_pos (wd R); omega)) ?_
    rw [Nat.testBit_xor, bit_of g.le g.lt, Nat.testBit_two_pow_self]
    rfl
  have e1 : pd R n 1 (2 ^ wd R) = R ^^^ 2 ^ wd R := by
    rw [pd_pow _ _ _ hn]
    obtain ⟨v, hv⟩ : ∃ v, wd R = v + 1 := ⟨wd R - 1, by have := g.w4; omega⟩
    have hv2 := pow_s v
    have ev : dp R v 1 = 2 ^ v := by
      have z := pd_pow (R := R) v (v + 1) 1 (by omega)
      rw [← z]
      have hp := Nat.two_pow_pos v
      exact pd_1_all (by rw [hv]; omega) (by omega)
    rw [hv]
    show dbl R (dp R v 1) = _
    rw [ev]
    unfold dbl
    rw [hv, ← hv2, if_neg (by omega), Nat.xor_comm]
  have hn2 : 2 ^ wd R ≤ 2 ^ n := Nat.pow_le_pow_right (by omega) (by omega)
  have e2 : pd R n 1 R = pd R n 1 (2 ^ wd R) ^^^ pd R n 1 (R ^^^ 2 ^ wd R) := by rw [← pd_addR, ← hR]
  rw [e2, e1, pd_1_all (y := R ^^^ 2 ^ wd R) hb (by omega), Nat.xor_self]
theorem nodup_len : ∀ (n : Nat) (l : List Nat), l.Nodup → (∀ x ∈ l, x < n) → l.length ≤ n
  | 0, l, _, h => by
    cases l with
    | nil => exact Nat.le_refl _
    | cons a l => exact absurd (h a List.mem_cons_self) (by omega)
  | n + 1, l, nd, h => by
    by_cases hm : n ∈ l
    · have := nodup_len n (l.erase n) (nd.erase n) fun x hx => by
        have z := (nd.mem_erase_iff).mp hx
        have := h x z.2
        omega
      rw [List.length_erase_of_mem hm] at this
      omega
    · have := nodup_len n l nd fun x hx => by
        have h1 := h x hx
        have : x ≠ n := fun e => hm (e ▸ hx)
        omega
      omega
theorem surj {n : Nat} {f : Nat → Nat} (hi : ∀ i j, i < n → j < n → f i = f j → i = j) (hr : ∀ i, i < n → f i < n) {x : Nat} (hx : x < n) : ∃ i, i < n ∧ f i = x := by
  refine Classical.byContradiction fun hne => ?_
  have nd : ((List.range n).map f).Nodup := by
    rw [List.nodup_iff_pairwise_ne, List.pairwise_map]
    exact List.Pairwise.imp_of_mem (fun ha hb hne e => hne (hi _ _ (List.mem_range.mp ha) (List.mem_range.mp hb) e)) (List.nodup_iff_pairwise_ne.mp List.nodup_range)
  have := nodup_len n (x :: (List.range n).map f) (List.nodup_cons.mpr ⟨fun hm => ?_, nd⟩) fun y hy => ?_
  · simp only [List.length_cons, List.length_map, List.length_range] at this
    omega
  · obtain ⟨i, h1, h2⟩ := List.mem_map.mp hm
    exact hne ⟨i, List.mem_range.mp h1, h2⟩
  · rcases List.mem_cons.mp hy with rfl | hy
    · exact hx
    · obtain ⟨i, h1, rfl⟩ := List.mem_map.mp hy
      exact hr i (List.mem_range.mp h1)
theorem pw_inj (g : Good R) : ∀ {i j : Nat}, i < last R → j < last R → pw R i = pw R j → i = j := by
  have key : ∀ {i j : Nat}, i < j → j < last R → pw R i = pw R j → False := fun {i j} h hj e => by
    have e2 : pw R j = dp R i (pw R (j - i)) := by
      have := pw_add (R := R) (j - i) i
      rwa [show j - i + i = j by omega] at this
    have e3 : dp R i 1 = dp R i (pw R (j - i)) := e.trans e2
    exact g.first (j - i) (by omega) (by omega) (dp_inj g.rng (one_lt g.rng) (pw_lt g.rng _) i e3).symm
  intro i j hi hj e
  rcases Nat.lt_trichotomy i j with h | h | h
  · exact (key h hj e).elim
  · exact h
  · exact (key h hi e.symm).elim
theorem pw_surj (g : Good R) {x : Nat} (h0 : x ≠ 0) (hx : x < 2 ^ wd R) : ∃ i, i < last R ∧ pw R i = x := by
  have hl := last1 g.rng
  obtain ⟨i, h1, h2⟩ := surj (n := last R) (f := fun i => pw R i - 1) (fun i j hi hj e => pw_inj g hi hj (by have a := pw_ne g.rng i; have b := pw_ne g.rng j; omega))
    (fun i hi => by have a := pw_ne g.rng i; have b := pw_lt g.rng i; have := g.rng.l15; omega) (x := x - 1) (by omega)
  exact ⟨i, h1, by have a := pw_ne g.rng i; omega⟩
theorem pw_per (g : Good R) (k : Nat) : pw R (k + last R) = pw R k := by
  rw [Nat.add_comm, pw_add, g.back]
  rfl
theorem pw_per' (g : Good R) (k : Nat) : ∀ m, pw R (k + last R * m) = pw R k
  | 0 => by rw [Nat.mul_zero, Nat.add_zero]
  | m + 1 => by rw [Nat.mul_succ, ← Nat.add_assoc, pw_per g, pw_per' g k m]
theorem pw_mod (g : Good R) (k : Nat) : pw R (k % last R) = pw R k := by
  have := pw_per' g (k % last R) (k / last R)
  rw [Nat.mod_add_div] at this
  exact this.symm
theorem pd_R (g : Good R) {n x : Nat} (hn : wd R < n) (hx : x < 2 ^ wd R) : pd R n x R = 0 := by
  by_cases h0 : x = 0
  · rw [h0, pd_zeroL]
  · obtain ⟨i, _, rfl⟩ := pw_surj g h0 hx
    show pd R n (dp R i 1) R = 0
    rw [pd_dp g.rng n R (one_lt g.rng) i, pd_1R g.rng hn, dp_zero]
def mul (R x y : Nat) : Nat := pd R 9 x y
theorem sym512 (g : Rng R) {x : Nat} (hx : x < 2 ^ wd R) : x < 256 := Nat.lt_of_lt_of_le hx g.p256
theorem mul_lt (g : Rng R) {x : Nat} (y : Nat) (hx : x < 2 ^ wd R) : mul R x y < 2 ^ wd R := pd_lt g 9 y hx
theorem mul_zero (x : Nat) : mul R x 0 = 0 := pd_zero 9 x
theorem zero_mul (y : Nat) : mul R 0 y = 0 := pd_zeroL 9 y
theorem mul_one (x : Nat) : mul R x 1 = x := pd_one 8 x
theorem mul_addR (x y y' : Nat) : mul R x (y ^^^ y') = mul R x y ^^^ mul R x y' := pd_addR 9 x y y'
theorem mul_dblR (g : Good R) {x y : Nat} (hx : x < 2 ^ wd R) (hy : y < 2 ^ wd R) : mul R x (dbl R y) = dbl R (mul R x y) := by
  have h2 : mul R x (2 * y) = dbl R (mul R x y) := by
    have h9 := sym512 g.rng hy
    unfold mul
    rw [pd_fuel (n := 9) (m := 10) (by omega) (by omega), pd_even, pd_dbl g.rng 9 y hx]
  unfold dbl
  split
  · rw [h2]; rfl
  · rw [mul_addR, h2]
    have : mul R x R = 0 := pd_R g (by have := g.rng.w8; omega) hx
    rw [this, Nat.xor_zero]
    rfl
theorem mul_dpR (g : Good R) {x y : Nat} (hx : x < 2 ^ wd R) (hy : y < 2 ^ wd R) : ∀ k, mul R x (dp R k y) = dp R k (mul R x y)
  | 0 => rfl
  | k + 1 => by
    show mul R x (dbl R (dp R k y)) = dbl R (dp R k (mul R x y))
    rw [mul_dblR g hx (dp_lt g.rng hy k), mul_dpR g hx hy k]
theorem mul_pw (g : Good R) (i j : Nat) : mul R (pw R i) (pw R j) = pw R (i + j) := by
  show mul R (pw R i) (dp R j 1) = _
  rw [mul_dpR g (pw_lt g.rng i) (one_lt g.rng) j, mul_one, pw_add]
theorem mul_comm (g : Good R) {x y : Nat} (hx : x < 2 ^ wd R) (hy : y < 2 ^ wd R) : mul R x y = mul R y x := by
  by_cases h0 : x = 0
  · rw [h0, zero_mul, mul_zero]
  · by_cases h1 : y = 0
    · rw [h1, zero_mul, mul_zero]
    · obtain ⟨i, _, rfl⟩ := pw_surj g h0 hx
      obtain ⟨j, _, rfl⟩ := pw_surj g h1 hy
      rw [mul_pw g, mul_pw g, Nat.add_comm]
theorem mul_assoc (g : Good R) {x y z : Nat} (hx : x < 2 ^ wd R) (hy : y < 2 ^ wd R) (hz : z < 2 ^ wd R) : mul R (mul R x y) z = mul R x (mul R y z) := by
  by_cases h0 : x = 0
  · rw [h0, zero_mul, zero_mul, zero_mul]
  · by_cases h1 : y = 0
    · rw [h1, zero_mul, mul_zero, zero_mul]
    · by_cases h2 : z = 0
      · rw [h2, mul_zero, mul_zero, mul_zero]
      · obtain ⟨i, _, rfl⟩ := pw_surj g h0 hx
        obtain ⟨j, _, rfl⟩ := pw_surj g h1 hy
        obtain ⟨k, _, rfl⟩ := pw_surj g h2 hz
        rw [mul_pw g, mul_pw g, mul_pw g, mul_pw g, Nat.add_assoc]
theorem mul_ne (g : Good R) {x y : Nat} (hx : x < 2 ^ wd R) (hy : y < 2 ^ wd R) (h0 : x ≠ 0) (h1 : y ≠ 0) : mul R x y ≠ 0 := by
  obtain ⟨i, _, rfl⟩ := pw_surj g h0 hx
  obtain ⟨j, _, rfl⟩ := pw_surj g h1 hy
  rw [mul_pw g]
  exact pw_ne g.rng _
def pows (R : Nat) : List Nat := (List.range (last R)).map (pw R)
def lg (R x : Nat) : Nat := if x = 0 then 0 else (pows R).idxOf x
theorem pows_len : (pows R).length = last R := by simp [pows]
theorem pows_get {k : Nat} (h : k < last R) : (pows R)[k]? = some (pw R k) := by simp [pows, h]
theorem lg_pw (g : Good R) {k : Nat} (h : k < last R) : lg R (pw R k) = k := by
  unfold lg
  rw [if_neg (pw_ne g.rng k)]
  have hm : pw R k ∈ pows R := List.mem_map.mpr ⟨k, List.mem_range.mpr h, rfl⟩
  have hl := List.idxOf_lt_length_iff.mpr hm
  rw [pows_len] at hl
  have he : (pows R)[(pows R).idxOf (pw R k)]? = some (pw R k) := by
    rw [List.getElem?_eq_getElem (by rw [pows_len]; exact hl)]
    exact congrArg some (List.getElem_idxOf _)
  rw [pows_get hl] at he
  exact pw_inj g hl h (Option.some.inj he)
theorem lg_spec (g : Good R) {x : Nat} (h0 : x ≠ 0) (hx : x < 2 ^ wd R) : lg R x < last R ∧ pw R (lg R x) = x := by
  obtain ⟨i, hi, rfl⟩ := pw_surj g h0 hx
  rw [lg_pw g hi]
  exact ⟨hi, rfl⟩
def inv (R x : Nat) : Nat := pw R ((last R - lg R x) % last R)
theorem inv_lt (g : Rng R) (x : Nat) : inv R x < 2 ^ wd R := pw_lt g _
theorem mul_inv (g : Good R) {x : Nat} (h0 : x ≠ 0) (hx : x < 2 ^ wd R) : mul R x (inv R x) = 1 := by
  obtain ⟨h1, h2⟩ := lg_spec g h0 hx
  unfold inv
  rw [pw_mod g]
  have : mul R (pw R (lg R x)) (pw R (last R - lg R x)) = 1 := by
    rw [mul_pw g, show lg R x + (last R - lg R x) = last R by omega, g.back]
  rwa [h2] at this
theorem inv_ne (g : Good R) (x : Nat) : inv R x ≠ 0 := pw_ne g.rng _
def goodB (R : Nat) : Bool := decide (16 ≤ R) && decide (R < 512) && decide (R % 2 = 1) && walkB R (last R) (last R) 1
where walkB (R L : Nat) : Nat → Nat → Bool
  | 0, x => x == 1
  | n + 1, x => (n + 1 == L || x != 1) && walkB R L n (dbl R x)
theorem walkB_ok {L : Nat} : ∀ (n : Nat) (j : Nat), n + j = L → goodB.walkB R L n (pw R j) = true → pw R L = 1 ∧ ∀ k, j ≤ k → k < L → k ≠ 0 → pw R k ≠ 1
  | 0, j, e, h => by
    have : j = L := by omega
    subst this
    exact ⟨by simpa [goodB.walkB] using h, fun k h1 h2 => by omega⟩
  | n + 1, j, e, h => by
    unfold goodB.walkB at h
    simp only [Bool.and_eq_true, Bool.or_eq_true, beq_iff_eq, bne_iff_ne] at h
    obtain ⟨h1, h2⟩ := walkB_ok n (j + 1) (by omega) h.2
    refine ⟨h1, fun k hk hL h0 => ?_⟩
    by_cases ek : k = j
    · subst ek
      rcases h.1 with h | h
      · omega
      · exact h
    · exact h2 k (by omega) hL h0
theorem good_of (h : goodB R = true) : Good R := by
  unfold goodB at h
  simp only [Bool.and_eq_true, decide_eq_true_eq] at h
  obtain ⟨⟨⟨h1, h2⟩, h3⟩, h4⟩ := h
  obtain ⟨h5, h6⟩ := walkB_ok (last R) 0 rfl h4
  exact ⟨h1, h2, h3, h5, fun k h0 hk => h6 k (Nat.zero_le _) hk (by omega)⟩
end
def rules : List Nat := [19, 25, 37, 41, 47, 55, 59, 61, 67, 91, 97, 103, 109, 115, 131, 137, 143, 145, 157, 167, 171, 185, 191, 193, 203, 211, 213, 229, 239, 241, 247, 253, 285, 299, 301, 333, 351, 355, 357, 361, 369, 391, 397, 425, 451, 463, 487, 501]
theorem rules_good : rules.all goodB = true := by decide +kernel
theorem good_rule {R : Nat} (h : R ∈ rules) : Good R := good_of (List.all_eq_true.mp rules_good R h)
def lgs (R : Nat) : List Nat := (List.range (last R + 1)).map (lg R)
theorem lgs_len {R : Nat} : (lgs R).length = last R + 1 := by simp [lgs]
theorem lgs_get {R x : Nat} (h : x ≤ last R) : (lgs R)[x]? = some (lg R x) := by simp [lgs, Nat.lt_succ_of_le h]
theorem lg_zero {R : Nat} : lg R 0 = 0 := rfl
theorem wd_of {R : Nat} (g : Rng R) {w : Nat} (h1 : 2 ^ w ≤ R) (h2 : R < 2 ^ (w + 1)) : wd R = w := by
  have a := (Nat.le_log2 (n := R) (k := w) (by have := g.lo; omega)).mpr h1
  have b := (Nat.log2_lt (n := R) (k := w + 1) (by have := g.lo; omega)).mpr h2
  unfold wd; omega
end MF
set_option Elab.async false
namespace MF
open PySem
def natI (l : List Nat) : List Int := l.map fun (n : Nat) => (n : Int)
def lastI (r : Int) : Int := (last r.toNat : Int)
def RngI (r : Int) : Prop := 0 ≤ r ∧ Rng r.toNat
def GoodI (r : Int) : Prop := 0 ≤ r ∧ Good r.toNat
def SymI (r x : Int) : Prop := 0 ≤ x ∧ x.toNat < 2 ^ wd r.toNat
def dblI (r x : Int) : Int := (dbl r.toNat x.toNat : Int)
def mulI (r x y : Int) : Int := (mul r.toNat x.toNat y.toNat : Int)
theorem GoodI.rng {r : Int} (h : GoodI r) : RngI r := ⟨h.1, h.2.rng⟩
theorem SymI.lt {r x : Int} (h : SymI r x) (g : RngI r) : x < 256 := by have := g.2.p256; have := h.2; have := h.1; omega
theorem SymI.le {r x : Int} (h : SymI r x) (g : RngI r) : x ≤ lastI r := by have := last1 g.2; have := h.2; unfold lastI; have := h.1; omega
theorem sym1 {r : Int} (g : RngI r) : SymI r 1 := ⟨by decide, one_lt g.2⟩
theorem dblI_sym {r x : Int} (g : RngI r) (h : SymI r x) : SymI r (dblI r x) := ⟨Int.natCast_nonneg _, by unfold dblI; rw [Int.toNat_natCast]; exact dbl_lt g.2 h.2⟩
theorem natI_len {l : List Nat} : (natI l).length = l.length := by simp [natI]
theorem natI_get {l : List Nat} {i n : Nat} (h : l[i]? = some n) : (natI l)[i]? = some (n : Int) := by simp [natI, h]
theorem xorI {x y : Int} (hx : 0 ≤ x) (hy : 0 ≤ y) : Builtin.bitXor x y = ((x.toNat ^^^ y.toNat : Nat) : Int) := Bits.bitXor_pp hx hy
theorem lastI_pos {r : Int} (g : GoodI r) : 0 < lastI r := by have := g.2.rng.l15; unfold lastI; omega
theorem dblI_step {r x l : Int} (g : RngI r) (h : SymI r x) (hl : l = lastI r) : (bif decide (l < x * 2 ^ (1 : Int).toNat) then Builtin.bitXor (x * 2 ^ (1 : Int).toNat) r else x * 2 ^ (1 : Int).toNat) = dblI r x := by
  have e1 : x * 2 ^ (1 : Int).toNat = 2 * x := by
    show x * 2 ^ 1 = 2 * x
    omega
  have h1 := last1 g.2
  have h0 := h.1
  rw [e1, hl]
  unfold dblI dbl lastI
  by_cases c : 2 * x.toNat < 2 ^ wd r.toNat
  · rw [if_pos c, decide_eq_false (by omega)]
    show 2 * x = _
    omega
  · rw [if_neg c, decide_eq_true (by omega)]
    show Builtin.bitXor (2 * x) r = _
    rw [xorI (by omega) g.1, show (2 * x).toNat = 2 * x.toNat by omega]
def WalkInv (r : Int) (found : List Int) (one : Int) : Prop := ∃ k, 1 ≤ k ∧ k ≤ last r.toNat ∧ found = natI ((List.range k).map (pw r.toNat)) ∧ one = (pw r.toNat k : Int)
theorem walk0 {r : Int} {found : List Int} {one : Int} (g : GoodI r) (h : found = [1]) (h2 : one = dblI r 1) : WalkInv r found one := by
  refine ⟨1, Nat.le_refl _, by have := g.2.rng.l15; omega, ?_, ?_⟩
  · rw [h]; rfl
  · rw [h2]; rfl
theorem WalkInv.len {r : Int} {found : List Int} {one : Int} (h : WalkInv r found one) (g : GoodI r) : found.length ≤ 255 := by
  obtain ⟨k, h1, h2, rfl, _⟩ := h
  have := g.2.rng.l255
  simp only [natI_len, List.length_map, List.length_range]
  omega
theorem WalkInv.sym {r : Int} {found : List Int} {one : Int} (h : WalkInv r found one) (g : GoodI r) : SymI r one := by
  obtain ⟨k, h1, h2, _, rfl⟩ := h
  exact ⟨Int.natCast_nonneg _, by rw [Int.toNat_natCast]; exact pw_lt g.2.rng k⟩
theorem WalkInv.step {r : Int} {found found' : List Int} {one one' : Int} (h : WalkInv r found one) (g : GoodI r) (hc : (!decide (one = 1)) = true) (e1 : found' = found ++ [one]) (e2 : one' = dblI r one) : WalkInv r found' one' ∧ 300 - found'.length < 300 - found.length := by
  have hl := h.len g
  obtain ⟨k, h1, h2, rfl, rfl⟩ := h
  have hk : k ≠ last r.toNat := fun e => by
    rw [e, g.2.back] at hc
    simp at hc
  refine ⟨⟨k + 1, by omega, by omega, ?_, ?_⟩, ?_⟩
  · rw [e1]
    unfold natI
    rw [List.range_succ, List.map_append, List.map_append]
    rfl
  · rw [e2]
    unfold dblI
    rw [Int.toNat_natCast]
    rfl
  · rw [e1, List.length_append, List.length_singleton]
    omega
theorem WalkInv.done {r : Int} {found : List Int} {one : Int} (h : WalkInv r found one) (g : GoodI r) (hc : (!decide (one = 1)) = false) : found = natI (pows r.toNat) := by
  obtain ⟨k, h1, h2, rfl, rfl⟩ := h
  have e : pw r.toNat k = 1 := by
    have : (pw r.toNat k : Int) = 1 := by simpa using hc
    omega
  have hk : k = last r.toNat := Classical.byContradiction fun hne => g.2.first k (by omega) (by omega) e
  rw [hk]
  rfl
structure LogInv (R i : Nat) (ls : List Nat) : Prop where
  len : ls.length = last R + 1
  zero : ls[0]? = some 0
  got : ∀ j, j < i → ls[pw R j]? = some j
theorem logInv0 {R : Nat} : LogInv R 0 (List.replicate (last R + 1) 0) := ⟨by simp, by simp, fun j h => absurd h (by omega)⟩
theorem LogInv.step {R i : Nat} {ls : List Nat} (h : LogInv R i ls) (g : Good R) (hi : i < last R) : LogInv R (i + 1) (ls.set (pw R i) i) := by
  have hp := pw_lt g.rng i
  have h1 := last1 g.rng
  have hn := pw_ne g.rng i
  refine ⟨by rw [List.length_set]; exact h.len, ?_, fun j hj => ?_⟩
  · rw [List.getElem?_set_ne hn]
    exact h.zero
  · by_cases e : j = i
    · subst e
      rw [List.getElem?_set_self (by rw [h.len]; omega)]
    · rw [List.getElem?_set_ne (fun q => e (pw_inj g (by omega) hi q.symm))]
      exact h.got j (by omega)
theorem LogInv.done {R : Nat} {ls : List Nat} (h : LogInv R (last R) ls) (g : Good R) : ls = lgs R := by
  have h1 := last1 g.rng
  apply List.ext_getElem?
  intro x
  by_cases hx : x ≤ last R
  · rw [lgs_get hx]
    by_cases h0 : x = 0
    · rw [h0, lg_zero]
      exact h.zero
    · obtain ⟨hl, e⟩ := lg_spec g h0 (by omega)
      have := h.got _ hl
      rw [e] at this
      exact this
  · rw [List.getElem?_eq_none (by rw [h.len]; omega), List.getElem?_eq_none (by rw [lgs_len]; omega)]
def ruleI (c : Int) : Int := ((rules.getD (c % 48).toNat 19 : Nat) : Int)
theorem rule_good (c : Int) : GoodI (ruleI c) := by
  unfold ruleI
  refine ⟨Int.natCast_nonneg _, ?_⟩
  rw [Int.toNat_natCast]
  refine good_rule ?_
  have h : (c % 48).toNat < rules.length := by
    have h1 := Int.emod_nonneg c (by decide : (48 : Int) ≠ 0)
    have h2 := Int.emod_lt_of_pos c (by decide : (0 : Int) < 48)
    show (c % 48).toNat < 48
    omega
  rw [List.getD_eq_getElem?_getD, List.getElem?_eq_getElem h]
  exact List.getElem_mem h
theorem bit1 (x : Int) : Builtin.bitAnd x 1 = x % 2 := PyProof.Rows.bitAnd_m1 x
end MF
set_option Elab.async false
namespace MF
open PySem
section
variable {R : Nat}
def sb (R x y : Nat) : Nat → Nat
  | 0 => 0
  | i + 1 => sb R x y i ^^^ (if y.testBit i then dp R i x else 0)
theorem sb_shift (x y : Nat) : ∀ n, sb R x y (n + 1) = (if y % 2 = 1 then x else 0) ^^^ sb R (dbl R x) (y / 2) n
  | 0 => by
    show 0 ^^^ (if y.testBit 0 then x else 0) = (if y % 2 = 1 then x else 0) ^^^ 0
    rw [Nat.xor_zero, Nat.zero_xor, Nat.testBit_zero]
    by_cases h : y % 2 = 1 <;> simp [h]
  | n + 1 => by
    show sb R x y (n + 1) ^^^ (if y.testBit (n + 1) then dp R (n + 1) x else 0) = _ ^^^ (sb R (dbl R x) (y / 2) n ^^^ (if (y / 2).testBit n then dp R n (dbl R x) else 0))
    rw [sb_shift x y n, Nat.testBit_succ, dp_dbl, Nat.xor_assoc]
    rfl
theorem pd_sb : ∀ (n x y : Nat), pd R n x y = sb R x y n
  | 0, _, _ => rfl
  | n + 1, x, y => by
    rw [sb_shift]
    show (if y % 2 = 1 then x else 0) ^^^ pd R n (dbl R x) (y / 2) = _
    rw [pd_sb n]
def lp (x y : Nat) : Nat → Nat
  | 0 => 0
  | i + 1 => lp x y i ^^^ (if y.testBit i then x * 2 ^ i else 0)
def ev (R p : Nat) : Nat := pd R 32 1 p
theorem ev_xor (a b : Nat) : ev R (a ^^^ b) = ev R a ^^^ ev R b := pd_addR 32 1 a b
theorem ev_sym (g : Rng R) {x : Nat} (h : x < 2 ^ wd R) : ev R x = x := pd_1_all h (by have := sym512 g h; omega)
theorem pd_shift : ∀ (k n x y : Nat), pd R (n + k) x (y * 2 ^ k) = pd R n (dp R k x) y
  | 0, n, x, y => by rw [Nat.pow_zero, Nat.mul_one]; rfl
  | k + 1, n, x, y => by
    rw [show y * 2 ^ (k + 1) = 2 * (y * 2 ^ k) by rw [pow_s, Nat.mul_left_comm], ← Nat.add_assoc, pd_even, pd_shift k, dp_dbl]
    rfl
theorem ev_rule (g : Good R) {k : Nat} (hk : k ≤ 16) : ev R (R * 2 ^ k) = 0 := by
  unfold ev
  rw [show 32 = (32 - k) + k by omega, pd_shift]
  exact pd_R g (by have := g.rng.w8; omega) (dp_lt g.rng (one_lt g.rng) k)
end
structure LongA (r x y : Int) (i : Nat) (f : Int) : Prop where
  eq : f = (lp x.toNat y.toNat i : Int)
theorem LongA.step {r x y : Int} {i : Nat} {f f' : Int} {b : Bool} (h : LongA r x y i f) (hx : 0 ≤ x) (hb : b = y.toNat.testBit i) (e : f' = bif b then Builtin.bitXor f (x * 2 ^ i) else f) : LongA r x y (i + 1) f' := by
  refine ⟨?_⟩
  rw [e, h.eq, hb]
  show _ = ((lp x.toNat y.toNat i ^^^ (if y.toNat.testBit i then x.toNat * 2 ^ i else 0) : Nat) : Int)
  cases y.toNat.testBit i with
  | false => simp
  | true =>
    have e2 : x * 2 ^ i = ((x.toNat * 2 ^ i : Nat) : Int) := by
      rw [Int.natCast_mul, Int.toNat_of_nonneg hx]
      simp
    show Builtin.bitXor _ _ = _
    rw [e2, xorI (Int.natCast_nonneg _) (Int.natCast_nonneg _), Int.toNat_natCast, Int.toNat_natCast]
    simp
structure LongB (r x y : Int) (i : Nat) (f : Int) : Prop where
  pos : 0 ≤ f
  lt : f.toNat < 2 ^ (max (wd r.toNat) (2 * wd r.toNat - 1 - i))
  ev : ev r.toNat f.toNat = sb r.toNat x.toNat y.toNat (wd r.toNat)
theorem LongB.step {r x y : Int} {i : Nat} {f f' p : Int} {b : Bool} (h : LongB r x y i f) (g : GoodI r) (hi : i < wd r.toNat) (hp : p = 2 * (wd r.toNat : Int) - 2 - i) (hb : b = (decide ((wd r.toNat : Int) ≤ p) && f.toNat.testBit p.toNat))
    (e : f' = bif b then Builtin.bitXor f (r * 2 ^ (p - (wd r.toNat : Int)).toNat) else f) : LongB r x y (i + 1) f' := by
  have w4 := g.2.rng.w4
  have w8 := g.2.rng.w8
  by_cases c : (wd r.toNat : Int) ≤ p
  · rw [decide_eq_true c, Bool.true_and] at hb
    have ep : p.toNat = 2 * wd r.toNat - 1 - (i + 1) := by omega
    have em : max (wd r.toNat) (2 * wd r.toNat - 1 - i) = p.toNat + 1 := by omega
    have hlt := h.lt
    rw [em] at hlt
    have em2 : max (wd r.toNat) (2 * wd r.toNat - 1 - (i + 1)) = p.toNat := by omega
    cases q : f.toNat.testBit p.toNat with
    | false =>
      rw [hb, q] at e
      have e : f' = f := e
      rw [e]
      exact ⟨h.pos, by rw [em2]; exact lt_of_bit hlt q, h.ev⟩
    | true =>
      rw [hb, q] at e
      have e : f' = Builtin.bitXor f (r * 2 ^ (p - (wd r.toNat : Int)).toNat) := e
      have ek : (p - (wd r.toNat : Int)).toNat = p.toNat - wd r.toNat := by omega
      have e2 : r * 2 ^ (p.toNat - wd r.toNat) = ((r.toNat * 2 ^ (p.toNat - wd r.toNat) : Nat) : Int) := by
        rw [Int.natCast_mul, Int.toNat_of_nonneg g.1]
        simp
      rw [ek, e2, xorI h.pos (Int.natCast_nonneg _), Int.toNat_natCast] at e
      have hr1 : 2 ^ p.toNat ≤ r.toNat * 2 ^ (p.toNat - wd r.toNat) := by
        have := Nat.mul_le_mul_right (2 ^ (p.toNat - wd r.toNat)) g.2.rng.le
        rw [← Nat.pow_add, show wd r.toNat + (p.toNat - wd r.toNat) = p.toNat by omega] at this
        exact this
      have hr2 : r.toNat * 2 ^ (p.toNat - wd r.toNat) < 2 ^ (p.toNat + 1) := by
        have := Nat.mul_lt_mul_of_pos_right g.2.rng.lt (Nat.two_pow_pos (p.toNat - wd r.toNat))
        rw [← Nat.pow_add, show wd r.toNat + 1 + (p.toNat - wd r.toNat) = p.toNat + 1 by omega] at this
        exact this
      refine ⟨by rw [e]; exact Int.natCast_nonneg _, ?_, ?_⟩
      · rw [e, Int.toNat_natCast, em2]
        refine lt_of_bit (xor_lt hlt hr2) ?_
        rw [Nat.testBit_xor, q, bit_of hr1 hr2]
        rfl
      · rw [e, Int.toNat_natCast, ev_xor, ev_rule g.2 (by omega), Nat.xor_zero]
        exact h.ev
  · rw [decide_eq_false c, Bool.false_and] at hb
    rw [hb] at e
    have e : f' = f := e
    rw [e]
    refine ⟨h.pos, ?_, h.ev⟩
    have := h.lt
    rw [show max (wd r.toNat) (2 * wd r.toNat - 1 - i) = wd r.toNat by omega] at this
    rw [show max (wd r.toNat) (2 * wd r.toNat - 1 - (i + 1)) = wd r.toNat by omega]
    exact this
theorem LongB.done {r x y f : Int} (h : LongB r x y (wd r.toNat) f) (g : GoodI r) (hx : SymI r x) (hy : SymI r y) : f = mulI r x y := by
  have w4 := g.2.rng.w4
  have w8 := g.2.rng.w8
  have hlt := h.lt
  rw [show max (wd r.toNat) (2 * wd r.toNat - 1 - wd r.toNat) = wd r.toNat by omega] at hlt
  have e := h.ev
  rw [ev_sym g.2.rng hlt, ← pd_sb] at e
  have hy2 := hy.2
  have hy3 := sym512 g.2.rng hy2
  unfold mulI mul
  rw [← pd_fuel (n := wd r.toNat) (m := 9) (by omega) (by omega), ← e]
  have := h.pos
  omega
end MF
set_option Elab.async false
namespace MF
open PySem
def TopInv (r t : Int) : Prop := ∃ w : Nat, t = ((2 ^ w : Nat) : Int) ∧ 4 ≤ w ∧ w ≤ wd r.toNat
theorem TopInv.step {r t t' : Int} (h : TopInv r t) (g : RngI r) (hc : decide (t * 2 ≤ r) = true) (e : t' = t * 2) : TopInv r t' ∧ 1024 - t'.toNat < 1024 - t.toNat := by
  obtain ⟨w, rfl, h1, h2⟩ := h
  have hc := of_decide_eq_true hc
  have hs := pow_s w
  have hr := g.1
  have h3 : 2 ^ (w + 1) ≤ r.toNat := by omega
  have h4 := (Nat.le_log2 (n := r.toNat) (k := w + 1) (by have := g.2.lo; omega)).mpr h3
  have h5 := g.2.hi
  have hp := Nat.two_pow_pos w
  refine ⟨⟨w + 1, by omega, by omega, h4⟩, by omega⟩
theorem TopInv.done {r t : Int} (h : TopInv r t) (g : RngI r) (hc : decide (t * 2 ≤ r) = false) : t = lastI r + 1 := by
  obtain ⟨w, rfl, h1, h2⟩ := h
  have hc := of_decide_eq_false hc
  have hs := pow_s w
  have hr := g.1
  have e : wd r.toNat = w := wd_of g.2 (Nat.le_trans (Nat.pow_le_pow_right (by omega) h2) g.2.le) (by omega)
  have hl := last1 g.2
  rw [e] at hl
  unfold lastI
  omega
theorem TopInv.lt {r t : Int} (h : TopInv r t) (g : RngI r) : 16 ≤ t ∧ t ≤ 512 := by
  obtain ⟨w, rfl, h1, h2⟩ := h
  have a := Nat.pow_le_pow_right (n := 2) (by omega) h1
  have b := Nat.pow_le_pow_right (n := 2) (by omega) (Nat.le_trans h2 g.2.w8)
  have : (2 : Nat) ^ 4 = 16 := rfl
  have : (2 : Nat) ^ 8 = 256 := rfl
  omega
structure PrInv (r x y f o c : Int) : Prop where
  sym : SymI r c
  f0 : 0 ≤ f
  o0 : 0 ≤ o
  o1 : o < 512
  eq : f.toNat ^^^ pd r.toNat 9 c.toNat o.toNat = mul r.toNat x.toNat y.toNat
theorem pd_half {R c o : Nat} (ho : o < 512) : pd R 9 c o = (if o % 2 = 1 then c else 0) ^^^ pd R 9 (dbl R c) (o / 2) := by
  show (if o % 2 = 1 then c else 0) ^^^ pd R 8 (dbl R c) (o / 2) = _
  rw [pd_fuel (n := 8) (m := 9) (by omega) (by omega)]
theorem dblI_ge {r c t : Int} (g : RngI r) (h : SymI r c) (ht : t = lastI r + 1) : (bif decide (t ≤ c * 2) then Builtin.bitXor (c * 2) r else c * 2) = dblI r c := by
  have := dblI_step g h (l := lastI r) rfl
  have e1 : c * 2 ^ (1 : Int).toNat = c * 2 := by
    show c * 2 ^ 1 = c * 2
    omega
  rw [e1] at this
  rw [← this, ht]
  by_cases q : lastI r < c * 2
  · rw [decide_eq_true q, decide_eq_true (by omega)]
  · rw [decide_eq_false q, decide_eq_false (by omega)]
theorem PrInv.step {r x y f o c f' o' c1 c' t : Int} {b : Bool} (h : PrInv r x y f o c) (g : RngI r) (ht : t = lastI r + 1) (hc : decide (0 < o) = true) (hb : b = decide (o % 2 = 1)) (ef : f' = bif b then Builtin.bitXor f c else f) (eo : o' = o / 2) (e1 : c1 = c * 2)
    (ec : c' = bif decide (t ≤ c1) then Builtin.bitXor c1 r else c1) : PrInv r x y f' o' c' ∧ o'.toNat < o.toNat := by
  have hc := of_decide_eq_true hc
  have ec2 : c' = dblI r c := by rw [ec, e1]; exact dblI_ge g h.sym ht
  have h0 := h.o0
  have h1 := h.o1
  have c0 := h.sym.1
  have f0 := h.f0
  refine ⟨⟨by rw [ec2]; exact dblI_sym g h.sym, ?_, by omega, by omega, ?_⟩, by omega⟩
  · rw [ef]
    cases b with
    | false => exact h.f0
    | true => exact Bits.bitXor_nonneg h.f0 c0
  · rw [← h.eq, pd_half (R := r.toNat) (c := c.toNat) (o := o.toNat) (by omega), ec2]
    unfold dblI
    rw [Int.toNat_natCast, show o'.toNat = o.toNat / 2 by omega, ef, hb]
    by_cases q : o % 2 = 1
    · rw [decide_eq_true q, if_pos (by omega)]
      show (Builtin.bitXor f c).toNat ^^^ _ = _
      rw [xorI f0 c0, Int.toNat_natCast, Nat.xor_assoc]
    · rw [decide_eq_false q, if_neg (by omega), Nat.zero_xor]
      try rfl
theorem PrInv.done {r x y f o c : Int} (h : PrInv r x y f o c) (hc : decide (0 < o) = false) : f = mulI r x y := by
  have hc := of_decide_eq_false hc
  have h0 := h.o0
  have e := h.eq
  rw [show o.toNat = 0 by omega, pd_zero, Nat.xor_zero] at e
  unfold mulI
  rw [← e]
  have := h.f0
  omega
end MF
set_option Elab.async false
namespace MF
open PySem
end MF
set_option linter.all false
set_option maxRecDepth 100000
namespace PF
open Pm MM WM MF PySem
def fv (r : Int) : FieldV := ⟨r, (wd r.toNat : Int), lastI r, natI (pows r.toNat), natI (lgs r.toNat)⟩
theorem p1000 : (4294967296 : Int) < 2 ^ 1000 := by decide +kernel
theorem shl_ok {i j : Int} (h : 0 ≤ j ∧ j ≤ 1000) (hi : 0 ≤ i ∧ i ≤ 4294967296) : ShlOk i j := ⟨h.1, h.2, by have := p1000; omega, by have := p1000; omega⟩
theorem doubled_eq {r x : Int} (g : RngI r) (h : SymI r x) : m_doubled x r (lastI r) = some (dblI r x) := by
  unfold m_doubled mb_doubled
  have hs : ShlOk x 1 := shl_ok ⟨by decide, by decide⟩ ⟨h.1, by have := h.lt g; omega⟩
  rw [guardO_pos hs, letO_def, ← dblI_step g h rfl]
  by_cases c : lastI r < x * 2 ^ (1 : Int).toNat
  · rw [if_pos (by simpa using c), letO_def, thenO_nx, decide_eq_true c]
    rfl
  · rw [if_neg (by simpa using c), thenO_nx, decide_eq_false c]
    rfl
theorem walk_eq {r : Int} (g : GoodI r) : m_walk_of r (lastI r) = some (natI (pows r.toNat)) := by
  unfold m_walk_of mb_walk_of
  rw [letO_def, doubled_eq g.rng (sym1 g.rng), bind_some]
  obtain ⟨s, e, hI, hc⟩ := whileO_inv (C := Empty) (c := fun (s_ : (List Int) × Int) => some (!decide (s_.2 = (1 : Int)))) (f := mL_walk_of_0 r (lastI r)) (fun s => WalkInv r s.1 s.2) (fun s => 300 - s.1.length) (fun s => !decide (s.2 = 1)) (n := 10000) (s0 := ([1], dblI r 1)) (walk0 g rfl rfl) (by show 300 - 1 < 10000; omega) (fun s _ => rfl) (fun s hI hb => by
    refine ⟨(s.1 ++ [s.2], dblI r s.2), .inl ?_, hI.step g hb rfl rfl⟩
    unfold mL_walk_of_0
    rw [guardO_pos (by have := hI.len g; omega), letO_def, doubled_eq g.rng (hI.sym g), bind_some])
  rw [e, thenO_nx]
  unfold mK_walk_of_0
  rw [hI.done g hc]
  rfl
theorem width_eq {r : Int} (g : RngI r) : ((Builtin.Int.intBits r : Nat) : Int) - 1 = (wd r.toNat : Int) := by
  have h0 := g.1
  have hlo := g.2.lo
  unfold Builtin.Int.intBits
  have : (r == 0) = false := by simpa using (show r ≠ 0 by omega)
  rw [this, if_neg (by decide), show r.natAbs = r.toNat by omega]
  unfold wd
  omega
theorem last_eq {r : Int} (g : RngI r) : ((1 : Int) * 2 ^ ((wd r.toNat : Int)).toNat) - 1 = lastI r := by
  have := g.2.p16
  have e := last1 g.2
  unfold lastI
  rw [Int.toNat_natCast, Int.one_mul]
  have : ((2 ^ wd r.toNat : Nat) : Int) = (2 : Int) ^ wd r.toNat := by rw [Int.natCast_pow]; rfl
  omega
theorem pows_len' {R : Nat} : (natI (pows R)).length = last R := by rw [natI_len]; simp [pows]
theorem field_eq {r : Int} (g : GoodI r) : m_Field___init__ r = some (.ok (fv r)) := by
  unfold m_Field___init__ mb_Field___init__
  have h0 := g.2.rng
  have hr := g.1
  have hlo := h0.lo
  have hhi := h0.hi
  have hod := h0.odd
  have hw := h0.w8
  have hl := last1 h0
  have hl2 := h0.l255
  have hl3 := h0.l15
  rw [if_neg (by simp; omega), letO_def, width_eq g.rng, guardO_pos (shl_ok ⟨by omega, by omega⟩ ⟨by decide, by decide⟩), letO_def, last_eq g.rng, walk_eq g, bind_some, if_neg (by rw [pows_len']; unfold lastI; simp), guardO_pos (by unfold lastI; omega), letO_def]
  obtain ⟨s, e, L, hs, hI⟩ := forO_inv (C := Empty) (R := Unit) (T := Unit) (f := mL_Field___init___0) (fun i s => ∃ L : List Nat, s = natI L ∧ LogInv r.toNat i L) (xs := enumL (natI (pows r.toNat))) (s0 := List.replicate (lastI r + 1).toNat 0) ⟨List.replicate (last r.toNat + 1) 0, by
    unfold natI lastI
    rw [List.map_replicate]
    congr 1, logInv0⟩ (fun i x s hx hs => by
    obtain ⟨L, rfl, hI⟩ := hs
    obtain ⟨e1, e2⟩ := enumL_iff.mp hx
    have hi : i < last r.toNat := by
      have := (List.getElem?_eq_some_iff.mp e2).1
      rw [pows_len'] at this
      exact this
    have e3 : x.2 = (pw r.toNat i : Int) := by
      rw [natI_get (pows_get hi)] at e2
      exact (Option.some.inj e2).symm
    have hp := pw_lt h0 i
    refine ⟨natI (L.set (pw r.toNat i) i), .inl ?_, _, rfl, hI.step g.2 hi⟩
    unfold mL_Field___init___0
    rw [e3, guardO_pos (by rw [natI_len, hI.len]; omega), letO_def, e1, Int.toNat_natCast]
    unfold natI
    rw [List.map_set])
  rw [e, thenO_nx]
  unfold mK_Field___init___0
  have : hI = hI := rfl
  subst hs
  have hI' : LogInv r.toNat (last r.toNat) L := by
    have z := hI
    unfold enumL at z
    rw [List.length_mapIdx, pows_len'] at z
    exact z
  rw [letO_def, hI'.done g.2]
  rfl
end PF
set_option linter.all false
set_option maxRecDepth 100000
namespace PF
open MF
abbrev Sy (R x : Nat) : Prop := x < 2 ^ wd R
def Row (R N : Nat) (a : List Nat) : Prop := a.length = N ∧ ∀ x ∈ a, Sy R x
def addl (a b : List Nat) : List Nat := List.zipWith (· ^^^ ·) a b
def scl (R c : Nat) (a : List Nat) : List Nat := a.map (mul R c)
abbrev at_ (a : List Nat) (p : Nat) : Nat := a.getD p 0
variable {R N : Nat}
theorem sy0 : Sy R 0 := Nat.two_pow_pos _
theorem at_sy {a : List Nat} (h : Row R N a) (p : Nat) : Sy R (at_ a p) := by
  show a.getD p 0 < _
  rw [List.getD_eq_getElem?_getD]
  cases e : a[p]? with
  | none => exact sy0
  | some x => exact h.2 x (List.mem_of_getElem? e)
theorem at_add {a b : List Nat} (h : a.length = b.length) (p : Nat) : at_ (addl a b) p = at_ a p ^^^ at_ b p := by
  show (addl a b).getD p 0 = a.getD p 0 ^^^ b.getD p 0
  unfold addl
  rw [List.getD_eq_getElem?_getD, List.getD_eq_getElem?_getD, List.getD_eq_getElem?_getD, List.getElem?_zipWith]
  by_cases hp : p < a.length
  · rw [List.getElem?_eq_getElem hp, List.getElem?_eq_getElem (by omega)]
    rfl
  · rw [List.getElem?_eq_none (by omega), List.getElem?_eq_none (by omega)]
    rfl
theorem at_scl {a : List Nat} {c : Nat} (p : Nat) : at_ (scl R c a) p = mul R c (at_ a p) := by
  show (scl R c a).getD p 0 = mul R c (a.getD p 0)
  unfold scl
  rw [List.getD_eq_getElem?_getD, List.getD_eq_getElem?_getD, List.getElem?_map]
  cases e : a[p]? with
  | none => exact (mul_zero c).symm
  | some x => rfl
theorem add_row (g : Rng R) {a b : List Nat} (ha : Row R N a) (hb : Row R N b) : Row R N (addl a b) := by
  refine ⟨by unfold addl; rw [List.length_zipWith, ha.1, hb.1, Nat.min_self], fun x hx => ?_⟩
  obtain ⟨i, hi⟩ := List.mem_iff_getElem?.mp hx
  have : at_ (addl a b) i = x := by
    show (addl a b).getD i 0 = x
    rw [List.getD_eq_getElem?_getD, hi]
    rfl
  rw [← this, at_add (by rw [ha.1, hb.1])]
  exact Nat.xor_lt_two_pow (at_sy ha i) (at_sy hb i)
theorem scl_row (g : Rng R) {a : List Nat} {c : Nat} (hc : Sy R c) (ha : Row R N a) : Row R N (scl R c a) := by
  refine ⟨by unfold scl; rw [List.length_map, ha.1], fun x hx => ?_⟩
  obtain ⟨y, _, rfl⟩ := List.mem_map.mp hx
  exact mul_lt g y hc
structure Lin (R N : Nat) (φ : List Nat → Nat) : Prop where
  lt : ∀ a, Row R N a → Sy R (φ a)
  add : ∀ a b, Row R N a → Row R N b → φ (addl a b) = φ a ^^^ φ b
  mul : ∀ c a, Sy R c → Row R N a → φ (scl R c a) = mul R c (φ a)
theorem lin_at (p : Nat) : Lin R N (fun a => at_ a p) := ⟨fun a h => at_sy h p, fun a b ha hb => at_add (by rw [ha.1, hb.1]) p, fun c a _ _ => at_scl p⟩
theorem Lin.by (g : Good R) {φ : List Nat → Nat} {k : Nat} (hk : Sy R k) (h : Lin R N φ) : Lin R N (fun a => MF.mul R k (φ a)) :=
  ⟨fun a ha => mul_lt g.rng _ hk, fun a b ha hb => by
    show MF.mul R k (φ (addl a b)) = _
    rw [h.add a b ha hb, mul_addR], fun c a hc ha => by
    show MF.mul R k (φ (scl R c a)) = MF.mul R c (MF.mul R k (φ a))
    rw [h.mul c a hc ha, ← mul_assoc g hk hc (h.lt a ha), mul_comm g hk hc, mul_assoc g hc hk (h.lt a ha)]⟩
def sumX {ι : Type} (l : List ι) (f : ι → Nat) : Nat := l.foldr (fun i acc => f i ^^^ acc) 0
def red (R : Nat) (pv : List Nat) (p : Nat) (a : List Nat) : List Nat := addl a (scl R (at_ a p) pv)
theorem red_row (g : Rng R) {pv a : List Nat} {p : Nat} (hp : Row R N pv) (ha : Row R N a) : Row R N (red R pv p a) := add_row g ha (scl_row g (at_sy ha p) hp)
theorem red_lin (g : Rng R) {pv a : List Nat} {p : Nat} {φ : List Nat → Nat} (h : Lin R N φ) (hp : Row R N pv) (ha : Row R N a) : φ (red R pv p a) = φ a ^^^ MF.mul R (at_ a p) (φ pv) := by
  unfold red
  rw [h.add _ _ ha (scl_row g (at_sy ha p) hp), h.mul _ _ (at_sy ha p) hp]
structure PInv (R N : Nat) (orig rest : List (List Nat)) (done : List (Nat × List Nat)) (ps : List Nat) : Prop where
  r1 : ∀ a ∈ rest, Row R N a
  r2 : ∀ d ∈ done, Row R N d.2
  to : ∀ φ, Lin R N φ → (∀ a ∈ orig, φ a = 0) → (∀ a ∈ rest, φ a = 0) ∧ ∀ d ∈ done, φ d.2 = 0
  fro : ∀ φ, Lin R N φ → (∀ a ∈ rest, φ a = 0) → (∀ d ∈ done, φ d.2 = 0) → ∀ a ∈ orig, φ a = 0
  z : ∀ p ∈ ps, ∀ a ∈ rest, at_ a p = 0
  k : ∀ d ∈ done, d.1 ∈ ps
  e : ∀ d ∈ done, ∀ d' ∈ done, at_ d.2 d'.1 = if d'.1 = d.1 then 1 else 0
  nd : (done.map (·.1)).Nodup
  len : rest.length + done.length = orig.length
theorem inv_mul (g : Good R) {x : Nat} (h0 : x ≠ 0) (hx : Sy R x) : MF.mul R (inv R x) x = 1 := by
  rw [mul_comm g (inv_lt g.rng x) hx]
  exact mul_inv g h0 hx
theorem mem_cut {α : Type} {l : List α} {k : Nat} {a x : α} (hk : l[k]? = some x) : a ∈ l ↔ a = x ∨ a ∈ l.take k ++ l.drop (k + 1) := by
  obtain ⟨hk', rfl⟩ := List.getElem?_eq_some_iff.mp hk
  conv => lhs; rw [← List.take_append_drop k l, List.drop_eq_getElem_cons hk']
  simp only [List.mem_append, List.mem_cons]
  constructor
  · rintro (h | h | h)
    · exact .inr (.inl h)
    · exact .inl h
    · exact .inr (.inr h)
  · rintro (h | h | h)
    · exact .inr (.inl h)
    · exact .inl h
    · exact .inr (.inr h)
def pivot (R : Nat) (row : List Nat) (p : Nat) : List Nat := scl R (inv R (at_ row p)) row
theorem PInv.step {orig rest : List (List Nat)} {done : List (Nat × List Nat)} {ps : List Nat} {p k : Nat} {row : List Nat} (h : PInv R N orig rest done ps) (g : Good R) (hp : p ∉ ps) (hk : rest[k]? = some row) (h0 : at_ row p ≠ 0) :
    PInv R N orig ((rest.take k ++ rest.drop (k + 1)).map (red R (pivot R row p) p)) (done.map (fun d => (d.1, red R (pivot R row p) p d.2)) ++ [(p, pivot R row p)]) (ps ++ [p]) := by
  have hrow : Row R N row := h.r1 row (List.mem_of_getElem? hk)
  have hx : Sy R (at_ row p) := at_sy hrow p
  have hpv : Row R N (pivot R row p) := scl_row g.rng (inv_lt g.rng _) hrow
  have pv1 : at_ (pivot R row p) p = 1 := by
    unfold pivot
    rw [at_scl, inv_mul g h0 hx]
  have pvl : ∀ φ, Lin R N φ → φ (pivot R row p) = MF.mul R (inv R (at_ row p)) (φ row) := fun φ hφ => hφ.mul _ _ (inv_lt g.rng _) hrow
  have pvz : ∀ q ∈ ps, at_ (pivot R row p) q = 0 := fun q hq => by
    unfold pivot
    rw [at_scl, h.z q hq row (List.mem_of_getElem? hk), mul_zero]
  have sub : ∀ a ∈ rest.take k ++ rest.drop (k + 1), a ∈ rest := fun a ha => (mem_cut hk).mpr (.inr ha)
  have redp : ∀ a, Row R N a → at_ (red R (pivot R row p) p a) p = 0 := fun a ha => by
    have := red_lin g.rng (lin_at p) hpv ha (p := p)
    rw [show at_ (red R (pivot R row p) p a) p = _ from this, pv1, mul_one, Nat.xor_self]
  have redq : ∀ a, Row R N a → ∀ q ∈ ps, at_ (red R (pivot R row p) p a) q = at_ a q := fun a ha q hq => by
    have := red_lin g.rng (lin_at q) hpv ha (p := p)
    rw [show at_ (red R (pivot R row p) p a) q = _ from this, pvz q hq, mul_zero, Nat.xor_zero]
  have dm : ∀ {P : Nat × List Nat → Prop}, (∀ d ∈ done, P (d.1, red R (pivot R row p) p d.2)) → P (p, pivot R row p) → ∀ d ∈ done.map (fun d => (d.1, red R (pivot R row p) p d.2)) ++ [(p, pivot R row p)], P d := fun h1 h2 d hd => by
    rcases List.mem_append.mp hd with hd | hd
    · obtain ⟨d0, hd0, rfl⟩ := List.mem_map.mp hd
      exact h1 d0 hd0
    · rw [List.mem_singleton.mp hd]
      exact h2
  refine ⟨?_, ?_, ?_, ?_, ?_, ?_, ?_, ?_, ?_⟩
  · intro a ha
    obtain ⟨b, hb, rfl⟩ := List.mem_map.mp ha
    exact red_row g.rng hpv (h.r1 b (sub b hb))
  · exact dm (fun d hd => red_row g.rng hpv (h.r2 d hd)) hpv
  · intro φ hφ ho
    obtain ⟨t1, t2⟩ := h.to φ hφ ho
    have hz : φ (pivot R row p) = 0 := by rw [pvl φ hφ, t1 row (List.mem_of_getElem? hk), mul_zero]
    refine ⟨fun a ha => ?_, dm (fun d hd => ?_) hz⟩
    · obtain ⟨b, hb, rfl⟩ := List.mem_map.mp ha
      rw [red_lin g.rng hφ hpv (h.r1 b (sub b hb)), t1 b (sub b hb), hz, mul_zero]
      rfl
    · show φ (red R (pivot R row p) p d.2) = 0
      rw [red_lin g.rng hφ hpv (h.r2 d hd), t2 d hd, hz, mul_zero]
      rfl
  · intro φ hφ h1 h2
    have hz : φ (pivot R row p) = 0 := h2 (p, pivot R row p) (List.mem_append_right _ (List.mem_singleton.mpr rfl))
    have hrz : φ row = 0 := by
      rw [pvl φ hφ] at hz
      exact Classical.byContradiction fun hn => mul_ne g (inv_lt g.rng _) (hφ.lt row hrow) (inv_ne g _) hn hz
    refine h.fro φ hφ (fun a ha => ?_) fun d hd => ?_
    · rcases (mem_cut hk).mp ha with rfl | ha'
      · exact hrz
      · have := h1 _ (List.mem_map.mpr ⟨a, ha', rfl⟩)
        rw [red_lin g.rng hφ hpv (h.r1 a ha), hz, mul_zero, Nat.xor_zero] at this
        exact this
    · have : φ (red R (pivot R row p) p d.2) = 0 := h2 (d.1, red R (pivot R row p) p d.2) (List.mem_append_left _ (List.mem_map.mpr ⟨d, hd, rfl⟩))
      rw [red_lin g.rng hφ hpv (h.r2 d hd), hz, mul_zero, Nat.xor_zero] at this
      exact this
  · intro q hq a ha
    obtain ⟨b, hb, rfl⟩ := List.mem_map.mp ha
    rcases List.mem_append.mp hq with hq | hq
    · rw [redq b (h.r1 b (sub b hb)) q hq]
      exact h.z q hq b (sub b hb)
    · rw [List.mem_singleton.mp hq]
      exact redp b (h.r1 b (sub b hb))
  · exact dm (fun d hd => List.mem_append_left _ (h.k d hd)) (List.mem_append_right _ (List.mem_singleton.mpr rfl))
  · refine dm (fun d hd => dm (fun d' hd' => ?_) ?_) (dm (fun d' hd' => ?_) ?_)
    · show at_ (red R (pivot R row p) p d.2) d'.1 = _
      rw [redq d.2 (h.r2 d hd) d'.1 (h.k d' hd')]
      exact h.e d hd d' hd'
    · show at_ (red R (pivot R row p) p d.2) p = if p = d.1 then 1 else 0
      rw [redp d.2 (h.r2 d hd), if_neg (fun (e : p = d.1) => hp (e.symm ▸ h.k d hd))]
    · show at_ (pivot R row p) d'.1 = if d'.1 = p then 1 else 0
      rw [pvz d'.1 (h.k d' hd'), if_neg (fun (e : d'.1 = p) => hp (e ▸ h.k d' hd'))]
    · show at_ (pivot R row p) p = if p = p then 1 else 0
      rw [pv1, if_pos rfl]
  · rw [List.map_append, List.map_map]
    refine List.nodup_append.mpr ⟨h.nd, List.nodup_cons.mpr ⟨(nomatch ·), List.Pairwise.nil⟩, ?_⟩
    intro a ha b hb e
    have hb : b = p := List.mem_singleton.mp hb
    obtain ⟨d, hd, rfl⟩ := List.mem_map.mp ha
    exact hp (hb ▸ e ▸ h.k d hd)
  · obtain ⟨hk', _⟩ := List.getElem?_eq_some_iff.mp hk
    have := h.len
    simp only [List.length_map, List.length_append, List.length_take, List.length_drop, List.length_cons, List.length_nil]
    omega
end PF
set_option linter.all false
set_option maxRecDepth 100000
namespace PF
open Pm MM WM MF PySem
abbrev natI2 (l : List (List Nat)) : List (List Int) := l.map natI
variable {r : Int} {N : Nat}
end PF
set_option linter.all false
set_option maxRecDepth 100000
namespace PF
open Pm MM WM MF PySem
variable {r : Int} {n : Nat}
def mark (n m i : Nat) (l : List Nat) : List Nat := l ++ (List.replicate m 0).set i 1
def marked (lines : List (List Nat)) : List (List Nat) := lines.mapIdx fun i l => mark 0 lines.length i l
def unk (known : List Bool) (place : Nat) : List Nat := (List.range known.length).filter fun k => !(known.getD k false) && !decide (k = place)
end PF
set_option linter.all false
namespace PF
open MM WM Pm
abbrev rl (n : Int) : List Int := rangeL 0 n
abbrev Turn (l : List Int) (n : Int) : Prop := l.Perm (rl n)
theorem rl_len {n : Int} : (rl n).length = n.toNat := by rw [rangeL_len, Int.sub_zero]
theorem Turn.len {l : List Int} {n : Int} (h : Turn l n) : l.length = n.toNat := by rw [h.length_eq, rl_len]
theorem Turn.mem {l : List Int} {n x : Int} (h : Turn l n) : x ∈ l ↔ 0 ≤ x ∧ x < n := by rw [h.mem_iff, rangeL_mem]
structure GoodSh (v : ShapeV) : Prop where
  p2 : 2 ≤ v.planks
  p8 : v.planks ≤ 8
  s1 : 1 ≤ v.stripes
  s32 : v.stripes ≤ 32
  d1 : 1 ≤ v.data
  dp : v.data < v.planks
  d2 : v.planks - v.data ≤ 2
  t1 : 1 ≤ v.turns.length
  t16 : v.turns.length ≤ 16
  tt : ∀ t ∈ v.turns, Turn t v.planks
  sz : v.size = v.data * v.stripes
end PF
set_option linter.all false
set_option maxRecDepth 100000
namespace PF
open Pm MM WM MF PySem
theorem cellW (s : List Int) (k : Int) (h : 0 ≤ k) : ∃ c, m_cell_at s k = some c := by
  unfold m_cell_at mb_cell_at
  by_cases e : k < s.length
  · rw [if_pos (by simpa using e), guardO_pos h, ixO_getD (d := 0) h e]
    exact ⟨_, rfl⟩
  · rw [if_neg (by simpa using e)]
    exact ⟨_, rfl⟩
end PF
set_option linter.all false
set_option maxRecDepth 100000
namespace PF
open Pm MM WM MF PySem
variable {r : Int} {n m : Nat} {W : List (List Nat)}
structure GoodW (R n m : Nat) (W : List (List Nat)) : Prop where
  n1 : 1 ≤ n
  m1 : 1 ≤ m
  m2 : m ≤ 2
  nm : n + m ≤ 8
  len : W.length = m
  row : ∀ l ∈ W, Row R n l
  nz : ∀ l ∈ W, ∃ k, k < n ∧ at_ l k ≠ 0
  col : ∀ k, k < n → ∃ l ∈ W, at_ l k ≠ 0
def cdv (b : BlocksV) (W : List (List Nat)) (n : Nat) : CodeV := ⟨b, natI2 W, (n : Int), (W.length : Int), (n : Int) + (W.length : Int)⟩
def bkv (r : Int) (k : Nat) : BlocksV := ⟨fv r, (k : Int), 1 * 2 ^ ((wd r.toNat : Int) * (k : Int)).toNat, (1 * 2 ^ ((wd r.toNat : Int) * (k : Int)).toNat - 1) / lastI r⟩
theorem blocksC (g : GoodI r) {k : Nat} (h : 1 ≤ k ∧ k ≤ 16) : m_Blocks___init__ (fv r) (k : Int) = some (.ok (bkv r k)) := by
  have hw := g.2.rng.w8
  have hl := lastI_pos g
  have h255 := g.2.rng.l255
  have hll : lastI r = (last r.toNat : Int) := rfl
  have hmul : (wd r.toNat : Int) * (k : Int) ≤ 8 * 16 := Int.mul_le_mul (by omega) (by omega) (by omega) (by omega)
  have hmul0 : 0 ≤ (wd r.toNat : Int) * (k : Int) := Int.mul_nonneg (by omega) (by omega)
  unfold m_Blocks___init__ mb_Blocks___init__
  rw [if_neg (by simp; omega), guardO_pos (Or.inr ⟨by omega, by omega⟩), show (fv r).width = (wd r.toNat : Int) from rfl, guardO_pos (shl_ok ⟨hmul0, by omega⟩ ⟨by decide, by decide⟩), letO_def, show (fv r).last = lastI r from rfl, guardO_pos ⟨hl, by omega⟩]
  rfl
end PF
set_option Elab.async false
namespace MF
section
variable {w : Nat}
def mapB (w : Nat) (g : Nat → Nat) : Nat → Nat → Nat
  | 0, _ => 0
  | m + 1, b => g (b % 2 ^ w) + 2 ^ w * mapB w g m (b / 2 ^ w)
theorem dm (x : Nat) : x = x % 2 ^ w + 2 ^ w * (x / 2 ^ w) := (Nat.mod_add_div x (2 ^ w)).symm
theorem dm_mod {a b : Nat} (h : a < 2 ^ w) : (a + 2 ^ w * b) % 2 ^ w = a := by rw [Nat.add_mul_mod_self_left, Nat.mod_eq_of_lt h]
theorem dm_div {a b : Nat} (h : a < 2 ^ w) : (a + 2 ^ w * b) / 2 ^ w = b := by rw [Nat.add_mul_div_left _ _ (Nat.two_pow_pos w), Nat.div_eq_of_lt h, Nat.zero_add]
theorem split_xor {a b c d : Nat} (ha : a < 2 ^ w) (hc : c < 2 ^ w) : (a + 2 ^ w * b) ^^^ (c + 2 ^ w * d) = (a ^^^ c) + 2 ^ w * (b ^^^ d) := by
  rw [dm (w := w) ((a + 2 ^ w * b) ^^^ (c + 2 ^ w * d)), Nat.xor_mod_two_pow, Nat.xor_div_two_pow, dm_mod ha, dm_mod hc, dm_div ha, dm_div hc]
theorem mapB_lt {g : Nat → Nat} (hg : ∀ x, x < 2 ^ w → g x < 2 ^ w) : ∀ m b, mapB w g m b < 2 ^ (w * m)
  | 0, b => by simp [mapB]
  | m + 1, b => by
    have h1 := hg (b % 2 ^ w) (Nat.mod_lt _ (Nat.two_pow_pos w))
    have h2 := mapB_lt hg m (b / 2 ^ w)
    have e : 2 ^ (w * (m + 1)) = 2 ^ w * 2 ^ (w * m) := by rw [Nat.mul_succ, Nat.pow_add, Nat.mul_comm]
    show g (b % 2 ^ w) + 2 ^ w * mapB w g m (b / 2 ^ w) < _
    rw [e]
    have : 2 ^ w * (mapB w g m (b / 2 ^ w) + 1) ≤ 2 ^ w * 2 ^ (w * m) := Nat.mul_le_mul_left _ h2
    rw [Nat.mul_succ] at this
    omega
theorem mapB_xor {g h : Nat → Nat} (hg : ∀ x, x < 2 ^ w → g x < 2 ^ w) (hh : ∀ x, x < 2 ^ w → h x < 2 ^ w) : ∀ m b, mapB w g m b ^^^ mapB w h m b = mapB w (fun x => g x ^^^ h x) m b
  | 0, _ => Nat.xor_self 0
  | m + 1, b => by
    have hb := Nat.mod_lt b (Nat.two_pow_pos w)
    show (g (b % 2 ^ w) + 2 ^ w * mapB w g m (b / 2 ^ w)) ^^^ (h (b % 2 ^ w) + 2 ^ w * mapB w h m (b / 2 ^ w)) = _
    rw [split_xor (hg _ hb) (hh _ hb), mapB_xor hg hh m]
    rfl
theorem mapB_mapB {g h : Nat → Nat} (hg : ∀ x, x < 2 ^ w → g x < 2 ^ w) : ∀ m b, mapB w h m (mapB w g m b) = mapB w (fun x => h (g x)) m b
  | 0, _ => rfl
  | m + 1, b => by
    have hb := hg _ (Nat.mod_lt b (Nat.two_pow_pos w))
    show h ((g (b % 2 ^ w) + 2 ^ w * mapB w g m (b / 2 ^ w)) % 2 ^ w) + 2 ^ w * mapB w h m ((g (b % 2 ^ w) + 2 ^ w * mapB w g m (b / 2 ^ w)) / 2 ^ w) = _
    rw [dm_mod hb, dm_div hb, mapB_mapB hg m]
    rfl
theorem mapB_congr {g h : Nat → Nat} (e : ∀ x, x < 2 ^ w → g x = h x) : ∀ m b, mapB w g m b = mapB w h m b
  | 0, _ => rfl
  | m + 1, b => by
    show g (b % 2 ^ w) + _ = h (b % 2 ^ w) + _
    rw [e _ (Nat.mod_lt b (Nat.two_pow_pos w)), mapB_congr e m]
theorem mapB_id : ∀ m b, b < 2 ^ (w * m) → mapB w (fun x => x) m b = b
  | 0, b, h => by
    have : b = 0 := by simpa using h
    rw [this]; rfl
  | m + 1, b, h => by
    show b % 2 ^ w + 2 ^ w * mapB w (fun x => x) m (b / 2 ^ w) = b
    rw [mapB_id m, ← dm]
    refine Nat.div_lt_of_lt_mul ?_
    rw [← Nat.pow_add]
    rw [Nat.mul_succ, Nat.add_comm] at h
    exact h
theorem mapB_zero : ∀ m b, mapB w (fun _ => 0) m b = 0
  | 0, _ => rfl
  | m + 1, b => by
    show 0 + 2 ^ w * mapB w (fun _ => 0) m (b / 2 ^ w) = 0
    rw [mapB_zero m]; simp
end
end MF
set_option Elab.async false
namespace MF
open PySem
def limI (r m : Int) : Int := ((2 ^ (wd r.toNat * m.toNat) : Nat) : Int)
def BlkI (r m b : Int) : Prop := 0 ≤ b ∧ b.toNat < 2 ^ (wd r.toNat * m.toNat)
def mapI (r m : Int) (g : Nat → Nat) (b : Int) : Int := (mapB (wd r.toNat) g m.toNat b.toNat : Int)
def dblB (r m b : Int) : Int := mapI r m (dbl r.toNat) b
def sclI (r m f b : Int) : Int := mapI r m (fun s => mul r.toNat s f.toNat) b
theorem lim_eq {r m : Int} (h : 0 ≤ m) : (1 : Int) * 2 ^ ((wd r.toNat : Int) * m).toNat = limI r m := by
  have e : ((wd r.toNat : Int) * m).toNat = wd r.toNat * m.toNat := by
    obtain ⟨k, rfl⟩ := Int.eq_ofNat_of_zero_le h
    show (((wd r.toNat : Nat) : Int) * (k : Int)).toNat = _
    rw [← Int.natCast_mul, Int.toNat_natCast]
    rfl
  rw [e, Int.one_mul]
  unfold limI
  simp
theorem map_blk {r m b : Int} {g : Nat → Nat} (hg : ∀ x, x < 2 ^ wd r.toNat → g x < 2 ^ wd r.toNat) : BlkI r m (mapI r m g b) := ⟨Int.natCast_nonneg _, by unfold mapI; rw [Int.toNat_natCast]; exact mapB_lt hg _ _⟩
theorem dblB_blk {r m b : Int} (g : RngI r) : BlkI r m (dblB r m b) := map_blk fun _ h => dbl_lt g.2 h
structure SclInv (r m f0 b0 found block factor : Int) : Prop where
  p0 : 0 ≤ found
  q0 : 0 ≤ factor
  q1 : factor < 512
  blk : BlkI r m block
  eq : found.toNat ^^^ mapB (wd r.toNat) (fun s => pd r.toNat 9 s factor.toNat) m.toNat block.toNat = mapB (wd r.toNat) (fun s => mul r.toNat s f0.toNat) m.toNat b0.toNat
theorem SclInv.step {r m f0 b0 found found' block block' factor factor' : Int} {c : Bool} (h : SclInv r m f0 b0 found block factor) (g : RngI r) (hc : decide (0 < factor) = true) (eb : c = decide (Builtin.bitAnd factor 1 = 1)) (ef : found' = bif c then Builtin.bitXor found block else found)
    (e1 : block' = dblB r m block) (e2 : factor' = factor / 2 ^ (1 : Int).toNat) : SclInv r m f0 b0 found' block' factor' ∧ factor'.toNat < factor.toNat := by
  have hc := of_decide_eq_true hc
  have q0 := h.q0
  have q1 := h.q1
  have e3 : factor' = factor / 2 := e2
  rw [bit1] at eb
  refine ⟨⟨?_, by omega, by omega, by rw [e1]; exact dblB_blk g, ?_⟩, by omega⟩
  · rw [ef]
    cases c with
    | false => exact h.p0
    | true => exact Bits.bitXor_nonneg h.p0 h.blk.1
  · rw [← h.eq, e1]
    unfold dblB mapI
    rw [Int.toNat_natCast, mapB_mapB (fun _ h => dbl_lt g.2 h), show factor'.toNat = factor.toNat / 2 by omega]
    have hp : ∀ x, x < 2 ^ wd r.toNat → pd r.toNat 9 x factor.toNat = (if factor.toNat % 2 = 1 then x else 0) ^^^ pd r.toNat 9 (dbl r.toNat x) (factor.toNat / 2) := fun x _ => pd_half (by omega)
    rw [mapB_congr hp m.toNat block.toNat, ← mapB_xor (w := wd r.toNat) (g := fun x => if factor.toNat % 2 = 1 then x else 0) (h := fun x => pd r.toNat 9 (dbl r.toNat x) (factor.toNat / 2)) (fun x hx => by split; exact hx; exact Nat.two_pow_pos _) (fun x hx => pd_lt g.2 _ _ (dbl_lt g.2 hx)), ← Nat.xor_assoc]
    congr 1
    rw [ef, eb]
    by_cases q : factor % 2 = 1
    · rw [decide_eq_true q]
      have q' : factor.toNat % 2 = 1 := by omega
      simp only [q', if_true]
      rw [mapB_id _ _ h.blk.2]
      show (Builtin.bitXor found block).toNat = _
      rw [xorI h.p0 h.blk.1, Int.toNat_natCast]
    · rw [decide_eq_false q]
      have q' : ¬ factor.toNat % 2 = 1 := by omega
      simp only [q', if_false]
      rw [mapB_zero, Nat.xor_zero]
      rfl
theorem SclInv.done {r m f0 b0 found block factor : Int} (h : SclInv r m f0 b0 found block factor) (hc : decide (0 < factor) = false) : found = sclI r m f0 b0 := by
  have hc := of_decide_eq_false hc
  have q0 := h.q0
  have e := h.eq
  rw [show factor.toNat = 0 by omega] at e
  have hz : ∀ x, x < 2 ^ wd r.toNat → pd r.toNat 9 x 0 = 0 := fun x _ => pd_zero 9 x
  rw [mapB_congr hz, mapB_zero, Nat.xor_zero] at e
  unfold sclI mapI
  rw [← e]
  have := h.p0
  omega
end MF
set_option Elab.async false
namespace MF
open PySem
end MF
set_option Elab.async false
namespace MF
open PySem
end MF
set_option linter.all false
set_option maxRecDepth 100000
namespace PF
open Pm MM WM MF PySem
variable {r : Int} {n m k : Nat} {W : List (List Nat)}
theorem bk_lim : (bkv r k).limit = limI r (k : Int) := lim_eq (r := r) (m := (k : Int)) (Int.natCast_nonneg _)
end PF
set_option linter.all false
set_option maxRecDepth 100000
namespace Pm2
open WM MM Pm
def mb_block (cell : Int) (limit : Int) : Option (Fl Unit Empty Int Unit) :=
if (decide ((cell % (5 : Int)) = (1 : Int))) then (
(ixO [(0 : Int), (1 : Int), (limit - (1 : Int)), (limit / (2 : Int))] ((cell / (5 : Int)) % (4 : Int))).bind fun y =>
some (.rt y)) else
guardO (0 < limit) (
some (.rt ((cell / (5 : Int)) % limit)))
def m_block (cell : Int) (limit : Int) : Option Int := outV (mb_block cell limit)
end Pm2
set_option linter.all false
set_option maxRecDepth 100000
namespace MM
end MM
namespace PF
open Pm Pm2 MM WM MF PySem
variable {r : Int} {n m k : Nat} {W : List (List Nat)}
theorem lim_ge (g : RngI r) (hk : 1 ≤ k) : 16 ≤ limI r k := by
  have h1 : 2 ^ (wd r.toNat * 1) ≤ 2 ^ (wd r.toNat * k) := Nat.pow_le_pow_right (by decide) (Nat.mul_le_mul_left _ hk)
  have := g.2.p16
  unfold limI
  rw [Int.toNat_natCast]
  rw [Nat.mul_one] at h1
  omega
theorem blk_iff {b : Int} : BlkI r k b ↔ 0 ≤ b ∧ b < limI r k := by
  unfold BlkI limI
  rw [Int.toNat_natCast]
  constructor
  · intro ⟨h1, h2⟩; exact ⟨h1, by omega⟩
  · intro ⟨h1, h2⟩; exact ⟨h1, by omega⟩
theorem blockW (g : RngI r) (hk : 1 ≤ k) (c : Int) : ∃ b, m_block c (limI r k) = some b ∧ BlkI r k b := by
  have h16 := lim_ge g hk
  unfold m_block mb_block
  by_cases h : c % 5 = 1
  · rw [if_pos (by simpa using h)]
    have h3 : (c / 5 % 4).toNat < 4 := by omega
    have kk : ∀ j : Nat, j < 4 → ∃ x, ([(0 : Int), 1, limI r k - 1, limI r k / 2] : List Int)[j]? = some x ∧ BlkI r k x := fun j hj => by
      match j, hj with
      | 0, _ => exact ⟨0, rfl, blk_iff.mpr (by omega)⟩
      | 1, _ => exact ⟨1, rfl, blk_iff.mpr (by omega)⟩
      | 2, _ => exact ⟨_, rfl, blk_iff.mpr (by omega)⟩
      | 3, _ => exact ⟨_, rfl, blk_iff.mpr (by omega)⟩
    obtain ⟨x, e, hx⟩ := kk _ h3
    exact ⟨x, by rw [ixO_eq (by omega) e]; rfl, hx⟩
  · rw [if_neg (by simpa using h), guardO_pos (by omega)]
    exact ⟨_, rfl, blk_iff.mpr ⟨Int.emod_nonneg _ (by omega), Int.emod_lt_of_pos _ (by omega)⟩⟩
end PF
set_option linter.all false
set_option maxRecDepth 100000
namespace PF
open Pm Pm2 MM WM MF PySem
variable {r : Int} {n m k : Nat} {W : List (List Nat)}
def sc (r : Int) (k f b : Nat) : Nat := mapB (wd r.toNat) (fun s => mul r.toNat s f) k b
def Bk (r : Int) (k b : Nat) : Prop := b < 2 ^ (wd r.toNat * k)
def sumB (r : Int) (k : Nat) (fs bs : List Nat) : Nat := sumX (List.range fs.length) fun i => sc r k (at_ fs i) (at_ bs i)
end PF
set_option linter.all false
set_option maxRecDepth 100000
namespace PF
open Pm Pm2 MM WM MF PySem
variable {r : Int} {n m k : Nat} {W : List (List Nat)}
structure Pre (R n m : Nat) (W : List (List Nat)) : Prop where
  len : W.length = m
  row : ∀ l ∈ W, Row R n l
theorem Pre.set {R : Nat} (g : Rng R) {j x : Nat} {l : List Nat} (h : Pre R n m W) (hl : W[j]? = some l) : Pre R n m (W.set j (l.set x 1)) := by
  refine ⟨by rw [List.length_set, h.len], fun a ha => ?_⟩
  rcases List.mem_or_eq_of_mem_set ha with ha | rfl
  · exact h.row a ha
  · have hr := h.row l (List.mem_of_getElem? hl)
    refine ⟨by rw [List.length_set, hr.1], fun y hy => ?_⟩
    rcases List.mem_or_eq_of_mem_set hy with hy | rfl
    · exact hr.2 y hy
    · exact one_lt g
end PF
set_option linter.all false
set_option maxRecDepth 100000
namespace PF
open Pm MM WM MF PySem
variable {r : Int} {n m : Nat}
def pl (n m : Nat) : List (List Nat) := [List.replicate n 1, (List.range n).map (· + 1)].take m
def c0 (n k : Nat) : Nat := at_ (List.replicate n 1 ++ [1, 0]) k
def c1 (n k : Nat) : Nat := at_ ((List.range n).map (· + 1) ++ [0, 1]) k
end PF
set_option linter.all false
set_option maxRecDepth 100000
namespace PF
open Pm Pm2 MM WM MF PySem
variable {r : Int} {n m k : Nat} {W : List (List Nat)}
def Make (r : Int) (k : Nat) (W : List (List Nat)) (bs : List Nat) : Prop := ∀ l ∈ marked W, sumB r k l bs = 0
def sums (r : Int) (k : Nat) (W : List (List Nat)) (bs : List Nat) : List Nat := W.map fun l => sumB r k l bs
end PF
set_option linter.all false
set_option maxRecDepth 100000
namespace PF
open Pm Pm2 MM WM MF PySem
variable {r : Int} {n m k : Nat} {W : List (List Nat)}
theorem rng_small {i : Int} (h : 0 ≤ i ∧ i ≤ 100000) : RngOk i := ⟨by omega, by omega⟩
theorem mapO_blk {f : Int → Option Int} {N : Nat} (h : ∀ z : Nat, z < N → ∃ b, f (z : Int) = some b ∧ BlkI r k b) : ∃ bs : List Nat, mapO f (rangeL 0 (N : Int)) = some (natI bs) ∧ bs.length = N ∧ ∀ b ∈ bs, Bk r k b := by
  have key : ∀ z, ∃ b : Nat, z < N → f ((z : Nat) : Int) = some (b : Int) ∧ Bk r k b := fun z => by
    by_cases hz : z < N
    · obtain ⟨b, e, hb⟩ := h z hz
      refine ⟨b.toNat, fun _ => ⟨by rw [e, Int.toNat_of_nonneg hb.1], ?_⟩⟩
      have := hb.2
      rw [Int.toNat_natCast] at this
      exact this
    · exact ⟨0, fun q => absurd q hz⟩
  refine ⟨(List.range N).map fun z => (key z).choose, ?_, by simp, fun b hb => ?_⟩
  · rw [mapO_some (g := fun z => (((key z.toNat).choose : Nat) : Int)) (fun z hz => by
      have hz := rangeL_mem.mp hz
      obtain ⟨z', rfl⟩ : ∃ z' : Nat, z = (z' : Int) := ⟨z.toNat, by omega⟩
      rw [Int.toNat_natCast]
      exact ((key z').choose_spec (by omega)).1)]
    congr 1
    unfold rangeL natI
    rw [List.map_map, List.map_map, show ((N : Int) - 0).toNat = N by omega]
    exact List.map_congr_left fun z _ => by simp
  · obtain ⟨z, hz, rfl⟩ := List.mem_map.mp hb
    exact ((key z).choose_spec (List.mem_range.mp hz)).2
theorem drawn (g : RngI r) (hk : 1 ≤ k) (s : List Int) {a : Int} (ha : 0 ≤ a) (N : Nat) : ∃ bs : List Nat, mapO (fun z => (m_cell_at s (a + z)).bind fun y => (m_block y (limI r k)).bind fun y' => some y') (rangeL 0 (N : Int)) = some (natI bs) ∧ bs.length = N ∧ ∀ b ∈ bs, Bk r k b := mapO_blk fun z _ => by
  obtain ⟨c, e⟩ := cellW s (a + z) (by omega)
  obtain ⟨b, eb, hb⟩ := blockW g hk c
  exact ⟨b, by rw [e, bind_some, eb]; rfl, hb⟩
instance {r : Int} {k : Nat} {W : List (List Nat)} {bs : List Nat} : Decidable (Make r k W bs) := inferInstanceAs (Decidable (∀ l ∈ marked W, sumB r k l bs = 0))
end PF
set_option linter.all false
set_option maxRecDepth 100000
namespace PF
open Pm Pm2 MM WM MF PySem
variable {r : Int} {n m : Nat}
end PF
set_option linter.all false
set_option maxRecDepth 100000
namespace PF
open Pm Pm2 MM WM MF PySem
variable {r : Int} {n m k N : Nat} {W L : List (List Nat)}
def ec (L : List (List Nat)) (j k : Nat) : Nat := at_ (L.getD j []) k
structure Eqs (R N : Nat) (L : List (List Nat)) : Prop where
  l1 : 1 ≤ L.length
  l2 : L.length ≤ 2
  row : ∀ l ∈ L, Row R N l
  col : ∀ k, k < N → ∃ j, j < L.length ∧ ec L j k ≠ 0
def cdet (R : Nat) (L : List (List Nat)) (a b : Nat) : Nat := mul R (ec L 0 a) (ec L 1 b) ^^^ mul R (ec L 1 a) (ec L 0 b)
def Fx (R : Nat) (L : List (List Nat)) (known : List Bool) (p : Nat) : Prop :=
  unk known p = [] ∨ (L.length = 2 ∧ (∀ k ∈ unk known p, cdet R L k ((unk known p).headD 0) = 0) ∧ cdet R L p ((unk known p).headD 0) ≠ 0)
instance {R : Nat} {known : List Bool} {p : Nat} : Decidable (Fx R L known p) := inferInstanceAs (Decidable (_ ∨ _))
theorem rangeL_eq {N : Nat} : rangeL 0 (N : Int) = (List.range N).map fun k => ((k : Nat) : Int) := by
  unfold rangeL
  rw [Int.sub_zero, Int.toNat_natCast]
  exact List.map_congr_left fun k _ => by omega
end PF
set_option linter.all false
set_option maxRecDepth 100000
namespace Lp
open Lm Pm MM WM PF MF PySem L2 Bits TL
variable {r : Int} {n m k : Nat}
theorem cellL (s : List Int) (k : Int) (h : 0 ≤ k ∧ k ≤ 1000) : ∃ c, m_cell s k = some c := by
  unfold m_cell mb_cell
  by_cases e : k < s.length
  · rw [if_pos (by simpa using e), guardO_pos h.1, ixO_getD (d := 0) h.1 e]
    exact ⟨_, rfl⟩
  · rw [if_neg (by simpa using e), letO_def]
    have fin : ∀ z : Int, -10000000000 < z → z < 10000000000 → mK_cell_0 z = some (.rt (z * z % 1000003)) := fun z h1 h2 => by
      unfold mK_cell_0
      rw [guardO_pos (.inl ⟨by omega, by omega⟩)]
    by_cases e2 : (0 : Int) < s.length
    · have q := Int.emod_nonneg (7 * k) (show (s.length : Int) ≠ 0 by omega)
      have q2 := Int.emod_lt_of_pos (7 * k) e2
      rw [if_pos (by simpa using e2), guardO_pos e2, guardO_pos q, ixO_getD (d := 0) q q2, bind_some]
      generalize s.getD (7 * k % (s.length : Int)).toNat 0 = y
      have y1 := Int.emod_nonneg y (show (1000003 : Int) ≠ 0 by decide)
      have y2 := Int.emod_lt_of_pos y (show (0 : Int) < 1000003 by decide)
      rw [guardO_pos (.inl ⟨by omega, by omega⟩), letO_def, thenO_nx]
      have z1 : 0 ≤ y % 1000003 * (k + 3) := Int.mul_nonneg y1 (by omega)
      have z2 : y % 1000003 * (k + 3) ≤ 1000003 * 1003 := Int.mul_le_mul (by omega) (by omega) (by omega) (by decide)
      rw [fin _ (by omega) (by omega)]
      exact ⟨_, rfl⟩
    · rw [if_neg (by simpa using e2), thenO_nx, fin _ (by omega) (by omega)]
      exact ⟨_, rfl⟩
theorem ten_good : ∀ j : Nat, j < 10 → ∃ i : Nat, ([19, 25, 37, 41, 67, 97, 131, 193, 285, 369] : List Int)[j]? = some (ruleI (i : Int)) := by
  have : ∀ j : Fin 10, ∃ i : Fin 48, ([19, 25, 37, 41, 67, 97, 131, 193, 285, 369] : List Int)[j.val]? = some (ruleI (i.val : Int)) := by decide
  intro j hj
  obtain ⟨i, hi⟩ := this ⟨j, hj⟩
  exact ⟨i.val, hi⟩
theorem ruleL (c : Int) : ∃ r, m_rule c = some r ∧ GoodI r := by
  unfold m_rule mb_rule
  have h1 := Int.emod_nonneg c (show (10 : Int) ≠ 0 by decide)
  have h2 := Int.emod_lt_of_pos c (show (0 : Int) < 10 by decide)
  obtain ⟨i, hi⟩ := ten_good (c % 10).toNat (by omega)
  rw [ixO_eq h1 hi]
  exact ⟨_, rfl, rule_good _⟩
def figL : List Nat := [48, 49, 50, 51, 52, 53, 54, 55, 56, 57, 97, 98, 99, 100, 101, 102]
theorem fig_tl : ("0123456789abcdef" : PySem.Str).cps.toList = figL := by decide +kernel
def dc (n : Nat) : Nat := figL.getD n 0
theorem sAt_fig {j : Int} (h0 : 0 ≤ j) (h1 : j < 16) : sAt ("0123456789abcdef" : PySem.Str) j = some ⟨#[dc j.toNat]⟩ := by
  have key : ∀ i : Fin 16, sAt ("0123456789abcdef" : PySem.Str) (i.val : Int) = some ⟨#[dc i.val]⟩ := by decide +kernel
  obtain ⟨i, rfl⟩ : ∃ i : Nat, j = i := ⟨j.toNat, by omega⟩
  exact key ⟨i, by omega⟩
theorem find_fig : ∀ i : Fin 16, Txt.find ("0123456789abcdef" : PySem.Str) ⟨#[dc i.val]⟩ = (i.val : Int) := by decide +kernel
theorem sIn_one {c : Nat} : sIn ⟨#[c]⟩ ("0123456789abcdef" : PySem.Str) = decide (c ∈ figL) := by
  unfold sIn
  rw [fig_tl]
  simp
theorem in_fig {c : Nat} (h : c ∈ figL) : ∃ i : Fin 16, c = dc i.val := by
  obtain ⟨i, hi, e⟩ := List.getElem_of_mem h
  refine ⟨⟨i, hi⟩, ?_⟩
  unfold dc
  rw [List.getD_eq_getElem?_getD, List.getElem?_eq_getElem hi, ← e]
  rfl
theorem dc_in : ∀ i : Fin 16, dc i.val ∈ figL := by decide +kernel
theorem dc_mod (x : Nat) : dc (x % 16) ∈ figL := dc_in ⟨x % 16, Nat.mod_lt _ (by decide)⟩
theorem pow16 : (16 : Nat) ^ 200 < 2 ^ 1000 := by decide +kernel
theorem shlA {A n : Nat} (h : A < 16 ^ n) (hn : n ≤ 200) : ShlOk (A : Int) (4 : Int) := by
  have h1 : A < 2 ^ 1000 := Nat.lt_of_lt_of_le h (Nat.le_trans (Nat.pow_le_pow_right (by decide) hn) (Nat.le_of_lt pow16))
  have h2 : ((A : Nat) : Int) < ((2 ^ 1000 : Nat) : Int) := Int.ofNat_lt.mpr h1
  rw [Int.natCast_pow] at h2
  have h3 : (0 : Int) < 2 ^ 1000 := Int.pow_pos (by decide)
  exact ⟨by decide, by decide, by have : (0 : Int) ≤ (A : Int) := Int.natCast_nonneg _; omega, h2⟩
theorem step_in {A n : Nat} (h : A < 16 ^ n) (hn : n ≤ 200) (i : Fin 16) :
    mL_read_block_0 ⟨#[dc i.val]⟩ (A : Int) = some (.nx ((16 * A + i.val : Nat) : Int)) ∧ mL_number_0 ⟨#[dc i.val]⟩ (A : Int) = some (.nx ((16 * A + i.val : Nat) : Int)) := by
  have hi : sIn ⟨#[dc i.val]⟩ ("0123456789abcdef" : PySem.Str) = true := by rw [sIn_one]; exact decide_eq_true (dc_in i)
  have hlt := i.isLt
  unfold mL_read_block_0 mL_number_0
  constructor
  · rw [guardO_pos (by rfl), hi, if_neg (by decide), guardO_pos (shlA h hn), letO_def, find_fig i]
    have e := bitOr_join' (a := (i.val : Int)) (b := (A : Int)) (k := 4) (by omega) (by show (i.val : Int) < 16; omega) (by omega)
    rw [show ((4 : Int)).toNat = 4 from rfl, e]
    congr 2
    rw [show ((2 : Int) ^ 4) = 16 from rfl]
    omega
  · rw [guardO_pos (by rfl), hi, if_neg (by decide), letO_def, find_fig i]
    congr 2
theorem step_out {c : Nat} (h : c ∉ figL) (a : Int) : mL_read_block_0 ⟨#[c]⟩ a = some (.er (11, []) ()) ∧ mL_number_0 ⟨#[c]⟩ a = some (.rt none) := by
  have hi : sIn ⟨#[c]⟩ ("0123456789abcdef" : PySem.Str) = false := by rw [sIn_one]; exact decide_eq_false h
  unfold mL_read_block_0 mL_number_0
  rw [guardO_pos (by rfl), hi, if_pos (by decide), guardO_pos (by rfl), if_pos (by decide)]
  exact ⟨rfl, rfl⟩
theorem lock : ∀ (l : List Nat) (A n : Nat), A < 16 ^ n → n + l.length ≤ 200 →
    (∃ v : Nat, (forO mL_read_block_0 (l.map fun c => (⟨#[c]⟩ : PySem.Str)) (A : Int) : Option (Fl Int Empty Int Unit)) = some (.nx (v : Int)) ∧ (forO mL_number_0 (l.map fun c => (⟨#[c]⟩ : PySem.Str)) (A : Int) : Option (Fl Int Empty (Option Int) Unit)) = some (.nx (v : Int))) ∨
    ((forO mL_read_block_0 (l.map fun c => (⟨#[c]⟩ : PySem.Str)) (A : Int) : Option (Fl Int Empty Int Unit)) = some (.er (11, []) ()) ∧ (forO mL_number_0 (l.map fun c => (⟨#[c]⟩ : PySem.Str)) (A : Int) : Option (Fl Int Empty (Option Int) Unit)) = some (.rt none))
  | [], A, n, _, _ => .inl ⟨A, rfl, rfl⟩
  | c :: l, A, n, h, hl => by
    rw [List.length_cons] at hl
    rw [List.map_cons]
    by_cases hc : c ∈ figL
    · obtain ⟨i, rfl⟩ := in_fig hc
      obtain ⟨h1, h2⟩ := step_in h (by omega) i
      have hi := i.isLt
      rw [forO_cons_nx h1, forO_cons_nx h2]
      exact lock l _ (n + 1) (by rw [Nat.pow_succ]; omega) (by omega)
    · obtain ⟨h1, h2⟩ := step_out hc (A : Int)
      refine .inr ⟨?_, ?_⟩
      · simp only [forO, h1]; rfl
      · simp only [forO, h2]; rfl
def HL (n b : Nat) : List Nat := (List.range n).map fun j => dc (b / 16 ^ (n - 1 - j) % 16)
theorem HL_len {n b : Nat} : (HL n b).length = n := by simp [HL]
theorem HL_succ (n b : Nat) : HL (n + 1) b = dc (b / 16 ^ n % 16) :: HL n b := by
  unfold HL
  rw [List.range_succ_eq_map, List.map_cons, List.map_map]
  congr 1
  refine List.map_congr_left fun j hj => ?_
  have := List.mem_range.mp hj
  show dc (b / 16 ^ (n + 1 - 1 - (j + 1)) % 16) = _
  rw [show n + 1 - 1 - (j + 1) = n - 1 - j by omega]
theorem HL_fig {n b c : Nat} (h : c ∈ HL n b) : c ∈ figL := by
  obtain ⟨j, _, rfl⟩ := List.mem_map.mp h
  exact dc_mod _
theorem HL_pad {b i : Nat} (h : b < 16 ^ i) : ∀ d : Nat, HL (i + d) b = List.replicate d 48 ++ HL i b
  | 0 => rfl
  | d + 1 => by
    rw [show i + (d + 1) = (i + d) + 1 from rfl, HL_succ, HL_pad h d, Nat.div_eq_of_lt (Nat.lt_of_lt_of_le h (Nat.pow_le_pow_right (by decide) (by omega)))]
    rfl
theorem num_HL {b : Nat} : ∀ (n A s : Nat), A < 16 ^ s → s + n ≤ 200 → (forO mL_number_0 ((HL n b).map fun c => (⟨#[c]⟩ : PySem.Str)) (A : Int) : Option (Fl Int Empty (Option Int) Unit)) = some (.nx ((16 ^ n * A + b % 16 ^ n : Nat) : Int))
  | 0, A, s, _, _ => by
    rw [Nat.pow_zero, Nat.mod_one, Nat.one_mul]
    rfl
  | n + 1, A, s, h, hs => by
    have hlt : b / 16 ^ n % 16 < 16 := Nat.mod_lt _ (by decide)
    obtain ⟨_, h2⟩ := step_in h (by omega) ⟨b / 16 ^ n % 16, hlt⟩
    rw [HL_succ, List.map_cons, forO_cons_nx h2, num_HL n _ (s + 1) (by rw [Nat.pow_succ]; show 16 * A + b / 16 ^ n % 16 < _; omega) (by omega)]
    have e : 16 ^ n * (16 * A + b / 16 ^ n % 16) + b % 16 ^ n = 16 ^ (n + 1) * A + b % 16 ^ (n + 1) := by
      rw [Nat.mod_pow_succ, Nat.pow_succ, Nat.mul_add, ← Nat.mul_assoc]
      omega
    show some (Fl.nx ((16 ^ n * (16 * A + b / 16 ^ n % 16) + b % 16 ^ n : Nat) : Int)) = _
    rw [e]
def fgN (r : Int) (k : Nat) : Nat := (wd r.toNat * k + 3) / 4
theorem figs (g : GoodI r) (hk : 1 ≤ k ∧ k ≤ 16) : m_figures_of (bkv r k) = some (fgN r k : Int) := by
  have w8 := g.2.rng.w8
  unfold m_figures_of mb_figures_of
  rw [show (bkv r k).field.width = (wd r.toNat : Int) from rfl, show (bkv r k).many = (k : Int) from rfl, guardO_pos (.inl ⟨by omega, by omega⟩), outV_rt]
  unfold fgN
  congr 1
theorem fg_le (g : GoodI r) (hk : 1 ≤ k ∧ k ≤ 16) : 1 ≤ fgN r k ∧ fgN r k ≤ 32 ∧ wd r.toNat * k ≤ 4 * fgN r k := by
  have w8 := g.2.rng.w8
  have w4 := g.2.rng.w4
  have h1 : wd r.toNat * k ≤ 8 * 16 := Nat.mul_le_mul w8 hk.2
  have h2 : 4 * 1 ≤ wd r.toNat * k := Nat.mul_le_mul w4 hk.1
  unfold fgN
  omega
theorem good_eq (v : Nat) : m_Blocks_good (bkv r k) (v : Int) = some (decide ((v : Int) < limI r (k : Int))) := by
  unfold m_Blocks_good mb_Blocks_good
  rw [show (bkv r k).limit = limI r k from bk_lim, decide_eq_true (show (0 : Int) ≤ (v : Int) by omega)]
  rfl
theorem read_ok (g : GoodI r) (hk : 1 ≤ k ∧ k ≤ 16) {line : PySem.Str} (hl : line.length ≤ 150) : ∃ o, m_number line (fgN r k : Int) (limI r (k : Int)) = some o ∧ m_read (bkv r k) line o = some true := by
  have key : ∃ o, m_number line (fgN r k : Int) (limI r (k : Int)) = some o ∧ ((o = none ∧ m_read_block (bkv r k) line = some (.error (11, []))) ∨ ∃ v, o = some v ∧ m_read_block (bkv r k) line = some (.ok v)) := by
    unfold m_number mb_number m_read_block mb_read_block
    rw [guardO_pos (by omega), guardO_pos (by omega), figs g hk, bind_some]
    by_cases c : ((line.length : Nat) : Int) = (fgN r k : Int)
    · rw [decide_eq_true c, if_neg (by decide), if_neg (by decide)]
      have hll : line.cps.toList.length = line.length := by rw [Array.length_toList]; rfl
      rcases lock line.cps.toList 0 0 (by decide) (by omega) with ⟨v, h1, h2⟩ | ⟨h1, h2⟩
      · have h1 : (forO mL_read_block_0 (MM.signs line) (0 : Int) : Option (Fl Int Empty Int Unit)) = some (.nx (v : Int)) := h1
        have h2 : (forO mL_number_0 (MM.signs line) (0 : Int) : Option (Fl Int Empty (Option Int) Unit)) = some (.nx (v : Int)) := h2
        rw [h1, h2, thenO_nx, thenO_nx]
        unfold mK_number_0 mK_read_block_0
        rw [good_eq, bind_some]
        by_cases c2 : (v : Int) < limI r (k : Int)
        · rw [decide_eq_false (show ¬ limI r (k : Int) ≤ (v : Int) by omega), if_neg (by decide), decide_eq_true c2, if_neg (by decide)]
          exact ⟨_, rfl, .inr ⟨_, rfl, rfl⟩⟩
        · rw [decide_eq_true (show limI r (k : Int) ≤ (v : Int) by omega), if_pos rfl, decide_eq_false c2, if_pos (by decide)]
          exact ⟨_, rfl, .inl ⟨rfl, rfl⟩⟩
      · have h1 : (forO mL_read_block_0 (MM.signs line) (0 : Int) : Option (Fl Int Empty Int Unit)) = some (.er (11, []) ()) := h1
        have h2 : (forO mL_number_0 (MM.signs line) (0 : Int) : Option (Fl Int Empty (Option Int) Unit)) = some (.rt none) := h2
        rw [h1, h2, thenO_er, thenO_rt]
        exact ⟨_, rfl, .inl ⟨rfl, rfl⟩⟩
    · rw [decide_eq_false c, if_pos (by decide), if_pos (by decide)]
      exact ⟨_, rfl, .inl ⟨rfl, rfl⟩⟩
  obtain ⟨o, e, h⟩ := key
  refine ⟨o, e, ?_⟩
  unfold m_read mb_read
  rcases h with ⟨rfl, h⟩ | ⟨v, rfl, h⟩
  · rw [h, callO_err, tryO_er, if_pos (by decide)]
    rfl
  · rw [h, callO_ok, tryO_nx, thenO_nx]
    unfold mK_read_0
    rw [decide_eq_true rfl]
    rfl
theorem HLs {H : PySem.Str} {f b : Nat} (h : H.cps.toList = HL f b) : H.length = f := by
  have : H.cps.toList.length = H.length := by rw [Array.length_toList]; rfl
  rw [← this, h, HL_len]
theorem number_HL (g : GoodI r) (hk : 1 ≤ k ∧ k ≤ 16) {b : Nat} (hb : (b : Int) < limI r (k : Int)) (hb2 : b < 16 ^ fgN r k) {H : PySem.Str} (h : H.cps.toList = HL (fgN r k) b) : m_number H (fgN r k : Int) (limI r (k : Int)) = some (some (b : Int)) := by
  have hf := fg_le g hk
  have hl := HLs h
  unfold m_number mb_number
  rw [guardO_pos (by omega), hl, decide_eq_true rfl, if_neg (by decide)]
  have e := num_HL (b := b) (fgN r k) 0 0 (by decide) (by omega)
  have e : (forO mL_number_0 (MM.signs H) (0 : Int) : Option (Fl Int Empty (Option Int) Unit)) = some (.nx ((16 ^ fgN r k * 0 + b % 16 ^ fgN r k : Nat) : Int)) := by
    unfold MM.signs
    rw [h]
    exact e
  rw [e, thenO_nx, Nat.mul_zero, Nat.zero_add, Nat.mod_eq_of_lt hb2]
  unfold mK_number_0
  rw [decide_eq_false (by omega), if_neg (by decide)]
  rfl
theorem one_lens : ∀ l : List Nat, ((l.map fun c => (⟨#[c]⟩ : PySem.Str)).map fun y => y.length).sum = l.length
  | [] => rfl
  | c :: l => by
    rw [List.map_cons, List.map_cons, List.sum_cons, one_lens l, List.length_cons]
    show 1 + _ = _
    omega
theorem joinL_ones : ∀ l : List Nat, joinL [] ((l.map fun c => (⟨#[c]⟩ : PySem.Str)).map tl) = l
  | [] => rfl
  | [c] => rfl
  | c :: d :: l => by
    show [c] ++ ([] ++ joinL [] (((d :: l).map fun c => (⟨#[c]⟩ : PySem.Str)).map tl)) = _
    rw [joinL_ones (d :: l)]
    rfl
theorem hexL {f b : Nat} (hf : f ≤ 32) : ∃ H, m_hex (b : Int) (f : Int) = some H ∧ H.cps.toList = HL f b := by
  unfold m_hex mb_hex
  rw [guardO_pos (rng_small ⟨by omega, by omega⟩), guardO_pos (by rw [rangeL_len]; omega)]
  have e : mapO (fun z => guardO (0 ≤ ((4 : Int) * (((f : Int) - (1 : Int)) - z))) ( (sAt ("0123456789abcdef" : PySem.Str) (PySem.Builtin.bitAnd ((b : Int) / 2 ^ ((4 : Int) * (((f : Int) - (1 : Int)) - z)).toNat) (15 : Int))).bind fun y => some y)) (rangeL 0 (f : Int)) = some ((HL f b).map fun c => (⟨#[c]⟩ : PySem.Str)) := by
    rw [rangeL_eq]
    unfold HL
    rw [List.map_map, mapO_some (g := fun z => (⟨#[dc (b / 16 ^ (f - 1 - z.toNat) % 16)]⟩ : PySem.Str)), List.map_map]
    · rfl
    · intro z hz
      obtain ⟨j, hj, rfl⟩ := List.mem_map.mp hz
      have hj := List.mem_range.mp hj
      have e1 : ((4 : Int) * (((f : Int) - (1 : Int)) - (j : Int))).toNat = 4 * (f - 1 - j) := by omega
      have e2 : (b : Int) / 2 ^ (4 * (f - 1 - j)) = ((b / 16 ^ (f - 1 - j) : Nat) : Int) := by
        rw [Int.natCast_ediv, Int.natCast_pow, Int.pow_mul]
        rfl
      have e3 := bitAnd_mask (x := ((b / 16 ^ (f - 1 - j) : Nat) : Int)) 4 (Int.natCast_nonneg _)
      have e4 : Builtin.bitAnd ((b / 16 ^ (f - 1 - j) : Nat) : Int) 15 = ((b / 16 ^ (f - 1 - j) % 16 : Nat) : Int) := by
        rw [show (15 : Int) = 2 ^ 4 - 1 from rfl, e3]
        rfl
      have hlt : b / 16 ^ (f - 1 - j) % 16 < 16 := Nat.mod_lt _ (by decide)
      rw [guardO_pos (by omega), e1, e2, e4, sAt_fig (by omega) (by omega), bind_some]
      rfl
  rw [e, bind_some, guardO_pos (by rw [one_lens, HL_len, List.length_map, HL_len]; show f + f * 0 ≤ 1000; omega), outV_rt]
  refine ⟨_, rfl, ?_⟩
  rw [join_eq]
  show tl (Str.join "" _) = _
  rw [tl_join, show tl ("" : PySem.Str) = [] from rfl, joinL_ones]
theorem shownL (g : GoodI r) (hk : 1 ≤ k ∧ k ≤ 16) {b : Nat} (hb2 : b < 16 ^ fgN r k) : ∃ t, m_shown_block (bkv r k) (b : Int) = some t ∧ t.cps.toList = HL (fgN r k) b := by
  have hf := fg_le g hk
  unfold m_shown_block mb_shown_block
  rw [letO_def]
  obtain ⟨s, e, ⟨i, hi, h1, h2⟩, hc⟩ := whileO_inv (C := Empty) (R := PySem.Str) (T := Unit) (c := fun (s_ : Int × PySem.Str) => some (decide ((0 : Int) < s_.1))) (f := mL_shown_block_0) (fun s => ∃ i, i ≤ fgN r k ∧ s.1 = ((b / 16 ^ i : Nat) : Int) ∧ s.2.cps.toList = HL i b) (fun s => 40 - s.2.length) (fun s => decide ((0 : Int) < s.1)) (n := 10000) (s0 := ((b : Int), ("" : PySem.Str))) ⟨0, by omega, by rw [Nat.pow_zero, Nat.div_one], rfl⟩ (by omega) (fun _ _ => rfl) (fun s ⟨i, hi, h1, h2⟩ hb => by
    have hpos := of_decide_eq_true hb
    rw [h1] at hpos
    have hlt : i < fgN r k := by
      rcases Nat.lt_or_ge i (fgN r k) with h | h
      · exact h
      · have : b / 16 ^ i = 0 := Nat.div_eq_of_lt (Nat.lt_of_lt_of_le hb2 (Nat.pow_le_pow_right (by decide) h))
        omega
    have hd : b / 16 ^ i % 16 < 16 := Nat.mod_lt _ (by decide)
    have hl := HLs h2
    have e0 : ((b / 16 ^ i : Nat) : Int) % 16 = ((b / 16 ^ i % 16 : Nat) : Int) := rfl
    have e1 : ((⟨#[dc (b / 16 ^ i % 16)]⟩ : PySem.Str) ++ s.2).cps.toList = HL (i + 1) b := by
      have := tl_append (⟨#[dc (b / 16 ^ i % 16)]⟩ : PySem.Str) s.2
      show tl _ = _
      rw [this, HL_succ, ← h2]
      rfl
    refine ⟨(((b / 16 ^ (i + 1) : Nat) : Int), (⟨#[dc (b / 16 ^ i % 16)]⟩ : PySem.Str) ++ s.2), .inl ?_, ⟨i + 1, hlt, rfl, e1⟩, ?_⟩
    · unfold mL_shown_block_0
      rw [letO_def]
      dsimp only
      rw [h1, e0, sAt_fig (by omega) (by omega), bind_some, guardO_pos (by rw [hl]; show 1 + i ≤ 1000; omega), letO_def]
      congr 3
      rw [Nat.pow_succ, ← Nat.div_div_eq_div_mul]
      rfl
    · have := HLs e1
      show 40 - ((⟨#[dc (b / 16 ^ i % 16)]⟩ : PySem.Str) ++ s.2).length < _
      rw [this, hl]
      omega)
  rw [e, thenO_nx]
  unfold mK_shown_block_0
  rw [figs g hk, bind_some, guardO_pos ⟨by omega, by omega⟩, outV_rt]
  refine ⟨_, rfl, ?_⟩
  have hl := HLs h2
  have hz : b / 16 ^ i = 0 := by
    have := of_decide_eq_false hc
    have h9 : (0 : Int) ≤ ((b / 16 ^ i : Nat) : Int) := Int.natCast_nonneg _
    rw [h1] at this
    have h8 : ((b / 16 ^ i : Nat) : Int) = 0 := Int.le_antisymm (Int.not_lt.mp this) h9
    exact Int.ofNat_eq_zero.mp h8
  have hlt : b < 16 ^ i := (Nat.div_eq_zero_iff_lt (Nat.pow_pos (by decide))).mp hz
  obtain ⟨d, hd⟩ : ∃ d, fgN r k = i + d := ⟨fgN r k - i, by omega⟩
  have pad := HL_pad hlt d
  unfold Txt.zfill
  rw [hl, hd]
  by_cases c : ((i + d : Nat) : Int) ≤ (i : Nat)
  · rw [if_pos c]
    have : d = 0 := by omega
    subst this
    exact h2
  · rw [if_neg c, show (((i + d : Nat) : Int)).toNat - i = d by omega, pad]
    have fin : (Builtin.Str.padded s.2 d 0 48).cps.toList = List.replicate d 48 ++ HL i b := by
      unfold Builtin.Str.padded
      simp [h2]
    unfold zfilled
    split
    · rename_i x
      have : (43 : Nat) ∈ HL i b := by rw [← h2]; exact Array.mem_toList_iff.mpr (Array.mem_of_getElem? x)
      exact absurd (HL_fig this) (by decide)
    · rename_i x
      have : (45 : Nat) ∈ HL i b := by rw [← h2]; exact Array.mem_toList_iff.mpr (Array.mem_of_getElem? x)
      exact absurd (HL_fig this) (by decide)
    · exact fin
theorem str_len (a b : PySem.Str) : (a ++ b).length = a.length + b.length := by
  rw [len_tl, len_tl, len_tl, tl_append, List.length_append]
theorem signL (c : Int) : ∃ sg, m_sign c = some sg ∧ sg.length = 1 := by
  unfold m_sign mb_sign
  have h1 := Int.emod_nonneg c (show (96 : Int) ≠ 0 by decide)
  have h2 := Int.emod_lt_of_pos c (show (0 : Int) < 96 by decide)
  rw [letO_def, guardO_pos (by decide +kernel), letO_def]
  have hlen : ∀ j : Fin 96, (sAt ((" !\"#$&'()*+,-./0123456789:;<=>?@ABCDEFGHIJKLMNOPQRSTUVWXYZ[\\]^_`" : PySem.Str) ++ ("abcdefghijklmnopqrstuvwxyz{|}~\n\t" : PySem.Str)) (j.val : Int)).isSome = true := by decide +kernel
  obtain ⟨j, ej⟩ : ∃ j : Nat, c % 96 = j := ⟨(c % 96).toNat, by omega⟩
  have hj := hlen ⟨j, by omega⟩
  rw [ej]
  obtain ⟨sg, hs⟩ := Option.isSome_iff_exists.mp hj
  rw [show sAt _ ((j : Nat) : Int) = some sg from hs, bind_some, outV_rt]
  refine ⟨sg, rfl, ?_⟩
  unfold sAt at hs
  split at hs
  · obtain ⟨q, _, rfl⟩ := Option.map_eq_some_iff.mp hs
    rfl
  · cases hs
theorem spoiledL {line sg : PySem.Str} (h0 : 1 ≤ line.length) (h1 : line.length ≤ 32) (hs : sg.length = 1) (way c : Int) : ∃ l, m_spoiled line way c sg = some l ∧ l.length ≤ 150 := by
  unfold m_spoiled mb_spoiled
  have a1 : ∀ lo hi, (cutS line lo hi).length ≤ 32 := fun lo hi => Nat.le_trans (cutS_length line lo hi) h1
  rw [guardO_pos (by omega), guardO_pos (by omega), letO_def]
  generalize c % (line.length : Int) = p
  by_cases w1 : way = 1
  · have := a1 none (some p)
    have := a1 (some (p + 1)) none
    rw [if_pos (decide_eq_true w1), guardO_pos (by omega), guardO_pos (by omega), guardO_pos (by omega), guardO_pos (by rw [str_len]; omega)]
    exact ⟨_, rfl, by rw [str_len, str_len]; omega⟩
  rw [if_neg (by simpa using w1)]
  by_cases w2 : way = 2
  · have := a1 none (some p)
    have := a1 (some (p + 1)) none
    rw [if_pos (decide_eq_true w2), guardO_pos (by omega), guardO_pos (by omega), guardO_pos (by omega)]
    exact ⟨_, rfl, by rw [str_len]; omega⟩
  rw [if_neg (by simpa using w2)]
  by_cases w3 : way = 3
  · rw [if_pos (decide_eq_true w3), guardO_pos (by omega), guardO_pos (by omega), letO_def]
    generalize c % ((line.length : Int) + 1) = p2
    have := a1 none (some p2)
    have := a1 (some p2) none
    rw [guardO_pos (by omega), guardO_pos (by omega), guardO_pos (by omega), guardO_pos (by rw [str_len]; omega)]
    exact ⟨_, rfl, by rw [str_len, str_len]; omega⟩
  rw [if_neg (by simpa using w3)]
  by_cases w4 : way = 4
  · rw [if_pos (decide_eq_true w4), guardO_pos (by omega)]
    refine ⟨_, rfl, ?_⟩
    have := PyProof.Rows.len_upper line
    omega
  rw [if_neg (by simpa using w4)]
  by_cases w5 : way = 5
  · have := a1 (some 1) none
    have q1 := Int.emod_nonneg c (show (16 : Int) ≠ 0 by decide)
    have q2 := Int.emod_lt_of_pos c (show (0 : Int) < 16 by decide)
    rw [if_pos (decide_eq_true w5), sAt_fig q1 q2, bind_some, guardO_pos (by omega), guardO_pos (by show 1 + _ ≤ _; omega)]
    exact ⟨_, rfl, by rw [str_len]; show 1 + _ ≤ _; omega⟩
  rw [if_neg (by simpa using w5)]
  by_cases w6 : way = 6
  · rw [if_pos (decide_eq_true w6)]
    exact ⟨_, rfl, by decide⟩
  rw [if_neg (by simpa using w6)]
  exact ⟨_, rfl, by omega⟩
theorem limN (g : GoodI r) (hk : 1 ≤ k ∧ k ≤ 16) : ∃ L : Nat, limI r (k : Int) = (L : Int) ∧ 1 ≤ L ∧ L ≤ 16 ^ fgN r k := by
  have hf := fg_le g hk
  refine ⟨2 ^ (wd r.toNat * k), rfl, Nat.one_le_two_pow, ?_⟩
  rw [show (16 : Nat) = 2 ^ 4 from rfl, ← Nat.pow_mul]
  exact Nat.pow_le_pow_right (by decide) hf.2.2
theorem law1 (s : List Int) (g : GoodI r) (hk : 1 ≤ k ∧ k ≤ 16) (y4 : Int) {b : Int} (h0 : 0 ≤ b) (h1 : b < limI r (k : Int)) : outV (mK_law_1 s r (k : Int) (limI r (k : Int)) (fgN r k : Int) y4 b) = some true := by
  have hf := fg_le g hk
  obtain ⟨L, eL, hL1, hL2⟩ := limN g hk
  obtain ⟨b, rfl⟩ : ∃ n : Nat, b = n := ⟨b.toNat, by omega⟩
  have hb2 : b < 16 ^ fgN r k := by omega
  obtain ⟨H, eH, hH⟩ := hexL (f := fgN r k) (b := b) (by omega)
  obtain ⟨t, et, ht⟩ := shownL g hk hb2
  have htH : t = H := TL.ext_tl (ht.trans hH.symm)
  subst htH
  have hl := HLs hH
  obtain ⟨o, eo, er⟩ := read_ok g hk (line := t) (by omega)
  rw [number_HL g hk h1 hb2 hH] at eo
  cases eo
  obtain ⟨y10, e10⟩ := cellL s 4 (by decide)
  obtain ⟨y11, e11⟩ := cellL s 5 (by decide)
  obtain ⟨sg, esg, hsg⟩ := signL y11
  obtain ⟨l, el, hll⟩ := spoiledL (line := t) (sg := sg) (by omega) (by omega) hsg ((y4 / (5 : Int)) % (8 : Int)) y10
  obtain ⟨o, eo, er2⟩ := read_ok g hk hll
  unfold mK_law_1
  rw [field_eq g, okO_ok, bind_some, blocksC g hk, okO_ok, bind_some, eH, bind_some, et, bind_some, er, decide_eq_true rfl]
  simp only [Bool.not_true, orO_false, bind_some]
  rw [if_neg (by decide), e10, bind_some, e11, bind_some, esg, bind_some, el, bind_some, eo, bind_some, er2, bind_some]
  rfl
theorem law0 (s : List Int) (g : GoodI r) (hk : 1 ≤ k ∧ k ≤ 16) (y4 : Int) {b : Int} (h0 : 0 ≤ b) (h1 : b < limI r (k : Int)) : outV (mK_law_0 s r (k : Int) (limI r (k : Int)) (fgN r k : Int) y4 b) = some true := by
  obtain ⟨L, eL, hL1, hL2⟩ := limN g hk
  unfold mK_law_0
  by_cases c : y4 % 5 = 2
  · rw [if_pos (decide_eq_true c), letO_def, thenO_nx]
    exact law1 s g hk y4 (by omega) (by omega)
  · rw [if_neg (by simpa using c), thenO_nx]
    exact law1 s g hk y4 h0 h1
theorem law_true (s : List Int) (h : s.length ≤ 63) : Lm.m_law s = some true := by
  obtain ⟨y, e0⟩ := cellL s 0 (by decide)
  obtain ⟨r, er, g⟩ := ruleL y
  obtain ⟨y2, e1⟩ := cellL s 1 (by decide)
  obtain ⟨y3, e2⟩ := cellL s 2 (by decide)
  obtain ⟨y4, e3⟩ := cellL s 3 (by decide)
  have q1 := Int.emod_nonneg y2 (show (16 : Int) ≠ 0 by decide)
  have q2 := Int.emod_lt_of_pos y2 (show (0 : Int) < 16 by decide)
  obtain ⟨k, ek⟩ : ∃ k : Nat, (1 : Int) + y2 % 16 = k := ⟨((1 : Int) + y2 % 16).toNat, by omega⟩
  have hk : 1 ≤ k ∧ k ≤ 16 := by omega
  have hw := g.2.rng.w8
  have hmul : (wd r.toNat : Int) * (k : Int) ≤ 8 * 16 := Int.mul_le_mul (by omega) (by omega) (by omega) (by omega)
  have hmul0 : 0 ≤ (wd r.toNat : Int) * (k : Int) := Int.mul_nonneg (by omega) (by omega)
  have efig : ((wd r.toNat : Int) * (k : Int) + 3) / 4 = (fgN r k : Int) := rfl
  have elim : (1 : Int) * 2 ^ ((wd r.toNat : Int) * (k : Int)).toNat = limI r (k : Int) := bk_lim
  obtain ⟨L, eL, hL1, hL2⟩ := limN g hk
  have hf := fg_le g hk
  have hbig : (L : Int) < 2 ^ 1000 := by
    have h1 : L < 2 ^ 1000 := Nat.lt_of_le_of_lt hL2 (Nat.lt_of_le_of_lt (Nat.pow_le_pow_right (by decide) (show fgN r k ≤ 200 by omega)) pow16)
    have h2 : ((L : Nat) : Int) < ((2 ^ 1000 : Nat) : Int) := Int.ofNat_lt.mpr h1
    rw [Int.natCast_pow] at h2
    exact h2
  have u1 := Int.emod_nonneg y3 (show limI r (k : Int) ≠ 0 by omega)
  have u2 := Int.emod_lt_of_pos y3 (show 0 < limI r (k : Int) by omega)
  have mw : MulWOk (y3 % limI r (k : Int)) (1000000000000000000000000000000000000007 : Int) := ⟨⟨by omega, by omega⟩, by decide +kernel⟩
  unfold m_law mb_law
  rw [e0, bind_some, er, bind_some, e1, bind_some, letO_def, letO_def, width_eq g.rng, ek, guardO_pos (.inl ⟨by omega, by omega⟩), guardO_pos (shl_ok ⟨hmul0, by omega⟩ ⟨by decide, by decide⟩), letO_def, guardO_pos (.inl ⟨by omega, by omega⟩), letO_def, efig, elim, e2, bind_some, guardO_pos (by omega), guardO_pos mw, guardO_pos (by omega), letO_def, e3, bind_some]
  by_cases c : y4 % 5 = 1
  · rw [if_pos (decide_eq_true c), thenO_nx]
    exact law0 s g hk y4 (by omega) (by omega)
  · rw [if_neg (by simpa using c), thenO_nx]
    exact law0 s g hk y4 (Int.emod_nonneg _ (by omega)) (Int.emod_lt_of_pos _ (by omega))
end Lp
set_option Elab.async false
set_option linter.all false
set_option maxRecDepth 100000
set_option maxHeartbeats 4000000
namespace Lw
open PySem PySem.Spec L2 WM WX MM Lm Pm
def top (i : Nat) : Stmt := PySem.Challenge.pw_spareplank_k81_blocks_as_texts.main.body.getD i (.Pass ⟨0, 0, 0, 0⟩)
abbrev N_doubled : List PySem.Str := ["one", "rule", "last"]
abbrev s_doubled : Stmt := top 18
theorem sc_doubled : FnScope N_doubled ["one", "rule", "last"] (defScope s_doubled) := ⟨rfl, rfl, rfl, by decide +kernel, rfl, by decide +kernel, by decide +kernel⟩
abbrev N_walk_of : List PySem.Str := ["rule", "last", "found", "one"]
abbrev s_walk_of : Stmt := top 19
theorem sc_walk_of : FnScope N_walk_of ["rule", "last"] (defScope s_walk_of) := ⟨rfl, rfl, rfl, by decide +kernel, rfl, by decide +kernel, by decide +kernel⟩
abbrev N_Field___init__ : List PySem.Str := ["self", "rule", "many", "one"]
abbrev s_Field___init__ : Stmt := inClass (top 20) 0
theorem sc_Field___init__ : FnScope N_Field___init__ ["self", "rule"] (defScope s_Field___init__) := ⟨rfl, rfl, rfl, by decide +kernel, rfl, by decide +kernel, by decide +kernel⟩
abbrev N_Blocks___init__ : List PySem.Str := ["self", "field", "many"]
abbrev s_Blocks___init__ : Stmt := inClass (top 14) 0
theorem sc_Blocks___init__ : FnScope N_Blocks___init__ ["self", "field", "many"] (defScope s_Blocks___init__) := ⟨rfl, rfl, rfl, by decide +kernel, rfl, by decide +kernel, by decide +kernel⟩
abbrev N_Blocks_good : List PySem.Str := ["self", "block"]
abbrev s_Blocks_good : Stmt := inClass (top 14) 1
theorem sc_Blocks_good : FnScope N_Blocks_good ["self", "block"] (defScope s_Blocks_good) := ⟨rfl, rfl, rfl, by decide +kernel, rfl, by decide +kernel, by decide +kernel⟩
abbrev N_figures_of : List PySem.Str := ["blocks"]
abbrev s_figures_of : Stmt := top 9
theorem sc_figures_of : FnScope N_figures_of ["blocks"] (defScope s_figures_of) := ⟨rfl, rfl, rfl, by decide +kernel, rfl, by decide +kernel, by decide +kernel⟩
abbrev N_shown_block : List PySem.Str := ["blocks", "block", "found", "figure"]
abbrev s_shown_block : Stmt := top 10
theorem sc_shown_block : FnScope N_shown_block ["blocks", "block"] (defScope s_shown_block) := ⟨rfl, rfl, rfl, by decide +kernel, rfl, by decide +kernel, by decide +kernel⟩
abbrev N_read_block : List PySem.Str := ["blocks", "text", "block", "sign"]
abbrev s_read_block : Stmt := top 11
theorem sc_read_block : FnScope N_read_block ["blocks", "text"] (defScope s_read_block) := ⟨rfl, rfl, rfl, by decide +kernel, rfl, by decide +kernel, by decide +kernel⟩
abbrev N_cell : List PySem.Str := ["_law_script", "_law_k", "_law_number_here"]
abbrev s_cell : Stmt := top 22
theorem sc_cell : FnScope N_cell ["_law_script", "_law_k"] (defScope s_cell) := ⟨rfl, rfl, rfl, by decide +kernel, rfl, by decide +kernel, by decide +kernel⟩
abbrev N_rule : List PySem.Str := ["_law_cell_here"]
abbrev s_rule : Stmt := top 23
theorem sc_rule : FnScope N_rule ["_law_cell_here"] (defScope s_rule) := ⟨rfl, rfl, rfl, by decide +kernel, rfl, by decide +kernel, by decide +kernel⟩
abbrev N_hex : List PySem.Str := ["_law_block", "_law_many", "_law_k"]
abbrev s_hex : Stmt := top 24
theorem sc_hex : FnScope N_hex ["_law_block", "_law_many"] (defScope s_hex) := ⟨rfl, rfl, rfl, by decide +kernel, rfl, by decide +kernel, by decide +kernel⟩
abbrev N_sign : List PySem.Str := ["_law_cell_here", "_law_some"]
abbrev s_sign : Stmt := top 25
theorem sc_sign : FnScope N_sign ["_law_cell_here"] (defScope s_sign) := ⟨rfl, rfl, rfl, by decide +kernel, rfl, by decide +kernel, by decide +kernel⟩
abbrev N_number : List PySem.Str := ["_law_line", "_law_many", "_law_limit", "_law_number_here", "_law_sign_here"]
abbrev s_number : Stmt := top 26
theorem sc_number : FnScope N_number ["_law_line", "_law_many", "_law_limit"] (defScope s_number) := ⟨rfl, rfl, rfl, by decide +kernel, rfl, by decide +kernel, by decide +kernel⟩
abbrev N_spoiled : List PySem.Str := ["_law_line", "_law_way", "_law_cell_here", "_law_sign_here", "_law_at"]
abbrev s_spoiled : Stmt := top 27
theorem sc_spoiled : FnScope N_spoiled ["_law_line", "_law_way", "_law_cell_here", "_law_sign_here"] (defScope s_spoiled) := ⟨rfl, rfl, rfl, by decide +kernel, rfl, by decide +kernel, by decide +kernel⟩
abbrev N_read : List PySem.Str := ["_law_blocks", "_law_line", "_law_due", "_law_found", "e"]
abbrev s_read : Stmt := top 28
theorem sc_read : FnScope N_read ["_law_blocks", "_law_line", "_law_due"] (defScope s_read) := ⟨rfl, rfl, rfl, by decide +kernel, rfl, by decide +kernel, by decide +kernel⟩
abbrev N_law : List PySem.Str := ["_law_script", "_law_rule_here", "_law_many", "_law_width", "_law_limit", "_law_figures", "_law_block", "_law_edge", "_law_blocks", "_law_due", "_law_found", "_law_line"]
abbrev s_law : Stmt := top 29
theorem sc_law : FnScope N_law ["_law_script"] (defScope s_law) := ⟨rfl, rfl, rfl, by decide +kernel, rfl, by decide +kernel, by decide +kernel⟩
abbrev N_NoField___init__ : List PySem.Str := ["self", "rule", "after"]
abbrev s_NoField___init__ : Stmt := inClass (top 3) 0
theorem sc_NoField___init__ : FnScope N_NoField___init__ ["self", "rule", "after"] (defScope s_NoField___init__) := ⟨rfl, rfl, rfl, by decide +kernel, rfl, by decide +kernel, by decide +kernel⟩
structure Ad where
  f_doubled : Addr
  f_walk_of : Addr
  f_Field___init__ : Addr
  f_Blocks___init__ : Addr
  f_Blocks_good : Addr
  f_figures_of : Addr
  f_shown_block : Addr
  f_read_block : Addr
  f_cell : Addr
  f_rule : Addr
  f_hex : Addr
  f_sign : Addr
  f_number : Addr
  f_spoiled : Addr
  f_read : Addr
  f_law : Addr
  f_NoField___init__ : Addr
  c_Field : Addr
  c_Blocks : Addr
  x_PlankError : Addr
  x_NoField : Addr
  x_NoShape : Addr
  x_NoBlock : Addr
  x_NoLine : Addr
  d_doubled : FuncData
  d_walk_of : FuncData
  d_Field___init__ : FuncData
  d_Blocks___init__ : FuncData
  d_Blocks_good : FuncData
  d_figures_of : FuncData
  d_shown_block : FuncData
  d_read_block : FuncData
  d_cell : FuncData
  d_rule : FuncData
  d_hex : FuncData
  d_sign : FuncData
  d_number : FuncData
  d_spoiled : FuncData
  d_read : FuncData
  d_law : FuncData
  d_NoField___init__ : FuncData
def exL (a : Ad) : ExTab := fun k => match k with
  | 0 => some (a.x_PlankError, [])
  | 1 => some (a.x_NoField, ["rule", "after"])
  | 4 => some (a.x_NoShape, [])
  | 6 => some (a.x_NoBlock, ["block"])
  | 11 => some (a.x_NoLine, [])
  | _ => none
def schField (a : Ad) (p : FieldV) : List (PySem.Str × As) := [("rule", ⟨tInt, p.rule⟩), ("width", ⟨tInt, p.width⟩), ("last", ⟨tInt, p.last⟩), ("powers", ⟨(tList tInt), p.powers⟩), ("logs", ⟨(tList tInt), p.logs⟩)]
def oschField (a : Ad) (p : FieldV) : List (PySem.Str × OAs) := [("rule", ⟨(oF tInt), p.rule⟩), ("width", ⟨(oF tInt), p.width⟩), ("last", ⟨(oF tInt), p.last⟩), ("powers", ⟨(oF (tList tInt)), p.powers⟩), ("logs", ⟨(oL (oF tInt)), p.logs⟩)]
def tField (a : Ad) : Ty FieldV := tObj a.c_Field (schField a)
theorem frz_Field {a : Ad} : Frz (oObj a.c_Field (oschField a)) (tObj a.c_Field (schField a)) := frz_O fun x => .cons frz_F (.cons frz_F (.cons frz_F (.cons frz_F (.cons (frz_L frz_F) (.nil)))))
abbrev ns_Field : List PySem.Str := ["rule", "width", "last", "powers", "logs"]
def schBlocks (a : Ad) (p : BlocksV) : List (PySem.Str × As) := [("field", ⟨(tField a), p.field⟩), ("many", ⟨tInt, p.many⟩), ("limit", ⟨tInt, p.limit⟩), ("ones", ⟨tInt, p.ones⟩)]
def oschBlocks (a : Ad) (p : BlocksV) : List (PySem.Str × OAs) := [("field", ⟨(oF (tField a)), p.field⟩), ("many", ⟨(oF tInt), p.many⟩), ("limit", ⟨(oF tInt), p.limit⟩), ("ones", ⟨(oF tInt), p.ones⟩)]
def tBlocks (a : Ad) : Ty BlocksV := tObj a.c_Blocks (schBlocks a)
theorem frz_Blocks {a : Ad} : Frz (oObj a.c_Blocks (oschBlocks a)) (tObj a.c_Blocks (schBlocks a)) := frz_O fun x => .cons frz_F (.cons frz_F (.cons frz_F (.cons frz_F (.nil))))
abbrev ns_Blocks : List PySem.Str := ["field", "many", "limit", "ones"]
structure Tx (K : PySem.W.Frag) (mg : PySem.Str → Option Value) (a : Ad) : Prop where
  F_doubled : Fun K "doubled" "doubled" s_doubled a.f_doubled a.d_doubled
  b_doubled : Binds K a.d_doubled ["one", "rule", "last"] []
  m_doubled : mg "doubled" = some (.ref a.f_doubled)
  F_walk_of : Fun K "walk_of" "walk_of" s_walk_of a.f_walk_of a.d_walk_of
  b_walk_of : Binds K a.d_walk_of ["rule", "last"] []
  m_walk_of : mg "walk_of" = some (.ref a.f_walk_of)
  F_Field___init__ : Fun K "__init__" "Field.__init__" s_Field___init__ a.f_Field___init__ a.d_Field___init__
  b_Field___init__ : Binds K a.d_Field___init__ ["self", "rule"] []
  F_Blocks___init__ : Fun K "__init__" "Blocks.__init__" s_Blocks___init__ a.f_Blocks___init__ a.d_Blocks___init__
  b_Blocks___init__ : Binds K a.d_Blocks___init__ ["self", "field", "many"] []
  F_Blocks_good : Fun K "good" "Blocks.good" s_Blocks_good a.f_Blocks_good a.d_Blocks_good
  b_Blocks_good : Binds K a.d_Blocks_good ["self", "block"] []
  e_Blocks_good : Meth K a.c_Blocks "good" a.f_Blocks_good
  F_figures_of : Fun K "figures_of" "figures_of" s_figures_of a.f_figures_of a.d_figures_of
  b_figures_of : Binds K a.d_figures_of ["blocks"] []
  m_figures_of : mg "figures_of" = some (.ref a.f_figures_of)
  F_shown_block : Fun K "shown_block" "shown_block" s_shown_block a.f_shown_block a.d_shown_block
  b_shown_block : Binds K a.d_shown_block ["blocks", "block"] []
  m_shown_block : mg "shown_block" = some (.ref a.f_shown_block)
  F_read_block : Fun K "read_block" "read_block" s_read_block a.f_read_block a.d_read_block
  b_read_block : Binds K a.d_read_block ["blocks", "text"] []
  m_read_block : mg "read_block" = some (.ref a.f_read_block)
  F_cell : Fun K "_law_cell" "_law_cell" s_cell a.f_cell a.d_cell
  b_cell : Binds K a.d_cell ["_law_script", "_law_k"] []
  m_cell : mg "_law_cell" = some (.ref a.f_cell)
  F_rule : Fun K "_law_rule" "_law_rule" s_rule a.f_rule a.d_rule
  b_rule : Binds K a.d_rule ["_law_cell_here"] []
  m_rule : mg "_law_rule" = some (.ref a.f_rule)
  F_hex : Fun K "_law_hex" "_law_hex" s_hex a.f_hex a.d_hex
  b_hex : Binds K a.d_hex ["_law_block", "_law_many"] []
  m_hex : mg "_law_hex" = some (.ref a.f_hex)
  F_sign : Fun K "_law_sign" "_law_sign" s_sign a.f_sign a.d_sign
  b_sign : Binds K a.d_sign ["_law_cell_here"] []
  m_sign : mg "_law_sign" = some (.ref a.f_sign)
  F_number : Fun K "_law_number" "_law_number" s_number a.f_number a.d_number
  b_number : Binds K a.d_number ["_law_line", "_law_many", "_law_limit"] []
  m_number : mg "_law_number" = some (.ref a.f_number)
  F_spoiled : Fun K "_law_spoiled" "_law_spoiled" s_spoiled a.f_spoiled a.d_spoiled
  b_spoiled : Binds K a.d_spoiled ["_law_line", "_law_way", "_law_cell_here", "_law_sign_here"] []
  m_spoiled : mg "_law_spoiled" = some (.ref a.f_spoiled)
  F_read : Fun K "_law_read" "_law_read" s_read a.f_read a.d_read
  b_read : Binds K a.d_read ["_law_blocks", "_law_line", "_law_due"] []
  m_read : mg "_law_read" = some (.ref a.f_read)
  F_law : Fun K "law" "law" s_law a.f_law a.d_law
  b_law : Binds K a.d_law ["_law_script"] []
  m_law : mg "law" = some (.ref a.f_law)
  C_Field : Cls K a.c_Field
  m_Field : mg "Field" = some (.ref a.c_Field)
  M_Field : Mk K a.c_Field a.f_Field___init__
  n_Field_rule : NoAttr K a.c_Field "rule"
  n_Field_width : NoAttr K a.c_Field "width"
  n_Field_last : NoAttr K a.c_Field "last"
  n_Field_powers : NoAttr K a.c_Field "powers"
  n_Field_logs : NoAttr K a.c_Field "logs"
  C_Blocks : Cls K a.c_Blocks
  m_Blocks : mg "Blocks" = some (.ref a.c_Blocks)
  M_Blocks : Mk K a.c_Blocks a.f_Blocks___init__
  n_Blocks_field : NoAttr K a.c_Blocks "field"
  n_Blocks_many : NoAttr K a.c_Blocks "many"
  n_Blocks_limit : NoAttr K a.c_Blocks "limit"
  n_Blocks_ones : NoAttr K a.c_Blocks "ones"
  m_PlankError : mg "PlankError" = some (.ref a.x_PlankError)
  m_NoField : mg "NoField" = some (.ref a.x_NoField)
  m_NoShape : mg "NoShape" = some (.ref a.x_NoShape)
  m_NoBlock : mg "NoBlock" = some (.ref a.x_NoBlock)
  m_NoLine : mg "NoLine" = some (.ref a.x_NoLine)
  F_NoField___init__ : Fun K "__init__" "NoField.__init__" s_NoField___init__ a.f_NoField___init__ a.d_NoField___init__
  b_NoField___init__ : Binds K a.d_NoField___init__ ["self", "rule", "after"] []
  B_PlankError : WX.BasC K a.x_PlankError
  O_NoField : OexC K a.x_NoField
  iC_NoField : PySem.W.findIn K (.ref a.x_NoField) "__init__" = some (some (.ref a.f_NoField___init__))
  tI_NoField : PySem.W.typeIn K (.ref a.f_NoField___init__) = some (.type "function")
  X_NoBlock : WX.ExcC K a.x_NoBlock
  X_NoField : WX.ExcC K a.x_NoField
  X_NoLine : WX.ExcC K a.x_NoLine
  X_NoShape : WX.ExcC K a.x_NoShape
  X_PlankError : WX.ExcC K a.x_PlankError
  na_NoField_after : PySem.W.findIn K (.ref a.x_NoField) "after" = some none
  na_NoField_rule : PySem.W.findIn K (.ref a.x_NoField) "rule" = some none
  p_NoBlock_NoBlock : PySem.W.subIn K (.ref a.x_NoBlock) (.ref a.x_NoBlock) = some true
  p_NoBlock_NoLine : PySem.W.subIn K (.ref a.x_NoBlock) (.ref a.x_NoLine) = some false
  p_NoBlock_PlankError : PySem.W.subIn K (.ref a.x_NoBlock) (.ref a.x_PlankError) = some true
  p_NoField_NoBlock : PySem.W.subIn K (.ref a.x_NoField) (.ref a.x_NoBlock) = some false
  p_NoField_NoLine : PySem.W.subIn K (.ref a.x_NoField) (.ref a.x_NoLine) = some false
  p_NoField_PlankError : PySem.W.subIn K (.ref a.x_NoField) (.ref a.x_PlankError) = some true
  p_NoLine_NoBlock : PySem.W.subIn K (.ref a.x_NoLine) (.ref a.x_NoBlock) = some false
  p_NoLine_NoLine : PySem.W.subIn K (.ref a.x_NoLine) (.ref a.x_NoLine) = some true
  p_NoLine_PlankError : PySem.W.subIn K (.ref a.x_NoLine) (.ref a.x_PlankError) = some true
  p_NoShape_NoBlock : PySem.W.subIn K (.ref a.x_NoShape) (.ref a.x_NoBlock) = some false
  p_NoShape_NoLine : PySem.W.subIn K (.ref a.x_NoShape) (.ref a.x_NoLine) = some false
  p_NoShape_PlankError : PySem.W.subIn K (.ref a.x_NoShape) (.ref a.x_PlankError) = some true
  p_PlankError_NoBlock : PySem.W.subIn K (.ref a.x_PlankError) (.ref a.x_NoBlock) = some false
  p_PlankError_NoLine : PySem.W.subIn K (.ref a.x_PlankError) (.ref a.x_NoLine) = some false
  p_PlankError_PlankError : PySem.W.subIn K (.ref a.x_PlankError) (.ref a.x_PlankError) = some true
  q_NoLine : PySem.W.excIn K a.x_NoLine [.type "ValueError", .type "Exception", .type "BaseException", .type "object"] "ValueError.__new__" = true
  kx_NoLine : PySem.W.keepIn K (.ref a.x_NoLine) = true
  q_NoShape : PySem.W.excIn K a.x_NoShape [.type "ValueError", .type "Exception", .type "BaseException", .type "object"] "ValueError.__new__" = true
  kx_NoShape : PySem.W.keepIn K (.ref a.x_NoShape) = true
  s_NoBlock : PySem.W.subIn K (.ref a.x_NoBlock) (.ref a.x_NoBlock) = some true
  s_NoField : PySem.W.subIn K (.ref a.x_NoField) (.ref a.x_NoField) = some true
  s_NoLine : PySem.W.subIn K (.ref a.x_NoLine) (.ref a.x_NoLine) = some true
  s_NoShape : PySem.W.subIn K (.ref a.x_NoShape) (.ref a.x_NoShape) = some true
  s_PlankError : PySem.W.subIn K (.ref a.x_PlankError) (.ref a.x_PlankError) = some true
  t_NoBlock_PlankError : PySem.W.exmOne K (.ref a.x_NoBlock) (.ref a.x_PlankError) = some true
  t_NoField_PlankError : PySem.W.exmOne K (.ref a.x_NoField) (.ref a.x_PlankError) = some true
  t_NoLine_PlankError : PySem.W.exmOne K (.ref a.x_NoLine) (.ref a.x_PlankError) = some true
  t_NoShape_PlankError : PySem.W.exmOne K (.ref a.x_NoShape) (.ref a.x_PlankError) = some true
  t_PlankError_PlankError : PySem.W.exmOne K (.ref a.x_PlankError) (.ref a.x_PlankError) = some true
  v_NoBlock : PySem.W.subIn K (.ref a.x_NoBlock) (.type "ValueError") = some true
  v_NoField : PySem.W.subIn K (.ref a.x_NoField) (.type "ValueError") = some true
  v_NoLine : PySem.W.subIn K (.ref a.x_NoLine) (.type "ValueError") = some true
  v_NoShape : PySem.W.subIn K (.ref a.x_NoShape) (.type "ValueError") = some true
  v_PlankError : PySem.W.subIn K (.ref a.x_PlankError) (.type "ValueError") = some true
  g_FIGURES : ∃ t, mg "FIGURES" = some (.str "0123456789abcdef" t)
  g_MOST_SYMBOLS : ∃ t, mg "MOST_SYMBOLS" = some (.int 16 t)
  g_LEAST_RULE : ∃ t, mg "LEAST_RULE" = some (.int 16 t)
  g_END_OF_RULES : ∃ t, mg "END_OF_RULES" = some (.int 512 t)
  n_ValueError : mg "ValueError" = none
  n_bool : mg "bool" = none
  n_divmod : mg "divmod" = none
  n_enumerate : mg "enumerate" = none
  n_int : mg "int" = none
  n_isinstance : mg "isinstance" = none
  n_len : mg "len" = none
  n_range : mg "range" = none
  n_str : mg "str" = none
theorem fld_Field_width {K : PySem.W.Frag} {mg : PySem.Str → Option Value} {a : Ad} {B : Bs} {Γ : Cxt} {t : TE} {p : FieldV} (T : Tx K mg a) (h : Sm B Γ t (tField a) p) : Sm B Γ (tFld K t "width") tInt p.width := sm_fld h ns_Field 1 (by decide +kernel) T.C_Field T.n_Field_width rfl rfl
theorem fld_Field_last {K : PySem.W.Frag} {mg : PySem.Str → Option Value} {a : Ad} {B : Bs} {Γ : Cxt} {t : TE} {p : FieldV} (T : Tx K mg a) (h : Sm B Γ t (tField a) p) : Sm B Γ (tFld K t "last") tInt p.last := sm_fld h ns_Field 2 (by decide +kernel) T.C_Field T.n_Field_last rfl rfl
theorem fld_Blocks_field {K : PySem.W.Frag} {mg : PySem.Str → Option Value} {a : Ad} {B : Bs} {Γ : Cxt} {t : TE} {p : BlocksV} (T : Tx K mg a) (h : Sm B Γ t (tBlocks a) p) : Sm B Γ (tFld K t "field") (tField a) p.field := sm_fld h ns_Blocks 0 (by decide +kernel) T.C_Blocks T.n_Blocks_field rfl rfl
theorem fld_Blocks_many {K : PySem.W.Frag} {mg : PySem.Str → Option Value} {a : Ad} {B : Bs} {Γ : Cxt} {t : TE} {p : BlocksV} (T : Tx K mg a) (h : Sm B Γ t (tBlocks a) p) : Sm B Γ (tFld K t "many") tInt p.many := sm_fld h ns_Blocks 1 (by decide +kernel) T.C_Blocks T.n_Blocks_many rfl rfl
theorem fld_Blocks_limit {K : PySem.W.Frag} {mg : PySem.Str → Option Value} {a : Ad} {B : Bs} {Γ : Cxt} {t : TE} {p : BlocksV} (T : Tx K mg a) (h : Sm B Γ t (tBlocks a) p) : Sm B Γ (tFld K t "limit") tInt p.limit := sm_fld h ns_Blocks 2 (by decide +kernel) T.C_Blocks T.n_Blocks_limit rfl rfl
theorem xk_NoField {a : Ad} : (exL a) 1 = some (a.x_NoField, (["rule", "after"] : List PySem.Str)) := rfl
theorem xk_NoShape {a : Ad} : (exL a) 4 = some (a.x_NoShape, ([] : List PySem.Str)) := rfl
theorem xk_NoLine {a : Ad} : (exL a) 11 = some (a.x_NoLine, ([] : List PySem.Str)) := rfl
theorem all_is_NoLine {K : PySem.W.Frag} {mg : PySem.Str → Option Value} {a : Ad} (T : Tx K mg a) : ∀ (k : Nat) (D : Addr) (ns : List PySem.Str), (exL a) k = some (D, ns) → WX.ExcC K D ∧ PySem.W.kitOne K (.ref D) (.ref a.x_NoLine) = some (decide (k ∈ ([11] : List Nat))) := by
  intro k D ns h
  unfold exL at h
  split at h
  · cases h; exact ⟨T.X_PlankError, kit_of T.X_NoLine T.s_PlankError T.p_PlankError_NoLine⟩
  · cases h; exact ⟨T.X_NoField, kit_of T.X_NoLine T.s_NoField T.p_NoField_NoLine⟩
  · cases h; exact ⟨T.X_NoShape, kit_of T.X_NoLine T.s_NoShape T.p_NoShape_NoLine⟩
  · cases h; exact ⟨T.X_NoBlock, kit_of T.X_NoLine T.s_NoBlock T.p_NoBlock_NoLine⟩
  · cases h; exact ⟨T.X_NoLine, kit_of T.X_NoLine T.s_NoLine T.p_NoLine_NoLine⟩
  · cases h
theorem all_is_NoBlock {K : PySem.W.Frag} {mg : PySem.Str → Option Value} {a : Ad} (T : Tx K mg a) : ∀ (k : Nat) (D : Addr) (ns : List PySem.Str), (exL a) k = some (D, ns) → WX.ExcC K D ∧ PySem.W.kitOne K (.ref D) (.ref a.x_NoBlock) = some (decide (k ∈ ([6] : List Nat))) := by
  intro k D ns h
  unfold exL at h
  split at h
  · cases h; exact ⟨T.X_PlankError, kit_of T.X_NoBlock T.s_PlankError T.p_PlankError_NoBlock⟩
  · cases h; exact ⟨T.X_NoField, kit_of T.X_NoBlock T.s_NoField T.p_NoField_NoBlock⟩
  · cases h; exact ⟨T.X_NoShape, kit_of T.X_NoBlock T.s_NoShape T.p_NoShape_NoBlock⟩
  · cases h; exact ⟨T.X_NoBlock, kit_of T.X_NoBlock T.s_NoBlock T.p_NoBlock_NoBlock⟩
  · cases h; exact ⟨T.X_NoLine, kit_of T.X_NoBlock T.s_NoLine T.p_NoLine_NoBlock⟩
  · cases h
theorem all_isV {K : PySem.W.Frag} {mg : PySem.Str → Option Value} {a : Ad} (T : Tx K mg a) : ∀ (k : Nat) (D : Addr) (ns : List PySem.Str), (exL a) k = some (D, ns) → WX.ExcC K D ∧ PySem.W.kitOne K (.ref D) (.type "ValueError") = some (decide (k ∈ ([0, 1, 2, 3, 4, 5, 6, 7, 8, 9, 10, 11] : List Nat))) := by
  intro k D ns h
  unfold exL at h
  split at h
  · cases h; exact ⟨T.X_PlankError, kit_ve T.v_PlankError⟩
  · cases h; exact ⟨T.X_NoField, kit_ve T.v_NoField⟩
  · cases h; exact ⟨T.X_NoShape, kit_ve T.v_NoShape⟩
  · cases h; exact ⟨T.X_NoBlock, kit_ve T.v_NoBlock⟩
  · cases h; exact ⟨T.X_NoLine, kit_ve T.v_NoLine⟩
  · cases h
theorem all_t_PlankError {K : PySem.W.Frag} {mg : PySem.Str → Option Value} {a : Ad} (T : Tx K mg a) : ∀ (k : Nat) (D : Addr) (ns : List PySem.Str), (exL a) k = some (D, ns) → PySem.W.exmOne K (.ref D) (.ref a.x_PlankError) = some (decide (k ∈ ([0, 1, 2, 3, 4, 5, 6, 7, 8, 9, 10, 11] : List Nat))) := by
  intro k D ns h
  unfold exL at h
  split at h
  · cases h; exact T.t_PlankError_PlankError
  · cases h; exact T.t_NoField_PlankError
  · cases h; exact T.t_NoShape_PlankError
  · cases h; exact T.t_NoBlock_PlankError
  · cases h; exact T.t_NoLine_PlankError
  · cases h
theorem ok_NoField___init__ {P : Program} {w : World} {K : PySem.W.Frag} {mg : PySem.Str → Option Value} {base : Heap} {a : Ad} (T : Tx K mg a) : FnOk P w K mg base CX0 1 a.f_NoField___init__ a.d_NoField___init__ ["self", "rule", "after"] (WX.spEI2 a.x_NoField "rule" "after") := by
  refine T.F_NoField___init__.ok sc_NoField___init__ (fun vs H Q E h => WX.spEI2_len h) (fun cdv A outer s H vs Q E hr h => ?_)
  exact ⟨_, (pss_cons (ps_expr (WX.pe_peI T.m_PlankError T.B_PlankError (pa_cons (pv 0) (pa_cons pe_str pa_nil)))) (pss_cons (ps_ost (pv 0) (pv 1)) (pss_cons (ps_ost (pv 0) (pv 2)) pss_nil))), WX.ei2_body T.O_NoField T.na_NoField_rule T.na_NoField_after h⟩
def sp_doubled (K : PySem.W.Frag) (a : Ad) : Sp := spP (fun (r : Int × Int × Int) => ([⟨tInt, r.1⟩, ⟨tInt, r.2.1⟩, ⟨tInt, r.2.2⟩] : List As)) (fun (r : Int × Int × Int) => m_doubled r.1 r.2.1 r.2.2) (oF tInt)
set_option maxHeartbeats 4000000 in
theorem ok_doubled {P : Program} {w : World} {K : PySem.W.Frag} {mg : PySem.Str → Option Value} {base : Heap} {a : Ad} (T : Tx K mg a) : FnOk P w K mg base CX0 1 a.f_doubled a.d_doubled ["one", "rule", "last"] (sp_doubled K a) := by
  refine T.F_doubled.ok sc_doubled (fun vs H Q E h => spP_len (n := 3) (fun r => rfl) h) (fun cdv A outer s H vs Q E hr h => ?_)
  refine ⟨_, (pss_cons (ps_set (i := 0) sc_doubled.nd rfl (by first | exact Or.inl rfl | exact Or.inr rfl) (pe_op op_shlW (pv 0) pe_int))
      (pss_cons (ps_if (pt_cmpR op_gt (pv 0) (pv 2) (nomark _)) (pss_cons (ps_set (i := 0) sc_doubled.nd rfl (by first | exact Or.inl rfl | exact Or.inr rfl) (pe_op op_xor (pv 0) (pv 1)))
      pss_nil) pss_nil)
      (pss_cons (ps_ret (pv 0))
      pss_nil))), ?_⟩
  refine spP_body (L := exL a) (mb := (fun (r : Int × Int × Int) => mb_doubled r.1 r.2.1 r.2.2)) (fun r => rfl) (fun r => by show 3 ≤ 3; decide) (by show 3 < 1000; decide) h (fun B0 hn r o_ hm hf => ?_)
  replace hn : B0.n = 3 := hn
  obtain ⟨one, rule, last⟩ := r
  replace hm : mb_doubled one rule last = some o_ := hm
  unfold mb_doubled at hm
  show G B0 _ [(0, .fz tInt one), (1, .fz tInt rule), (2, .fz tInt last)] _
  refine guardE hm ?_; clear hm; intro g_ hm
  refine letE hm ?_; clear hm; intro one1 e_one1 hm
  refine g_asg (τ := tInt) (by rw [hn]; decide) (sm_eq e_one1 (sm_op (sm_var rfl) sm_int (ov_shlG g_))) ?_
  refine g_join (S := Int) (fun (s : Int) => [(0, .fz tInt s), (1, .fz tInt rule), (2, .fz tInt last)]) hm hf (smt_tt (sm_op (sm_var rfl) (sm_var rfl) ov_gt)) (fun hc o_ hm hf => ?_) (fun hc o_ hm hf => ?_) (fun s_ hm => ?_)
  ·
    refine letE hm ?_; clear hm; intro one2 e_one2 hm
    refine g_asg (τ := tInt) (by rw [hn]; decide) (sm_eq e_one2 (sm_op (sm_var rfl) (sm_var rfl) ov_xor)) ?_
    cases hm
    exact g_nx hf ⟨rfl, rfl, rfl, trivial⟩
  ·
    cases hm
    exact g_nx hf ⟨rfl, rfl, rfl, trivial⟩
  ·
    unfold mK_doubled_0 at hm
    cases hm
    exact g_ret (Le.refl B0) hf trivial (So.of (sm_var rfl))
def sp_walk_of (K : PySem.W.Frag) (a : Ad) : Sp := spP (fun (r : Int × Int) => ([⟨tInt, r.1⟩, ⟨tInt, r.2⟩] : List As)) (fun (r : Int × Int) => m_walk_of r.1 r.2) (oL (oF tInt))
set_option maxHeartbeats 4000000 in
theorem ok_walk_of {P : Program} {w : World} {K : PySem.W.Frag} {mg : PySem.Str → Option Value} {base : Heap} {a : Ad} (T : Tx K mg a) : FnOk P w K mg base CX0 2 a.f_walk_of a.d_walk_of ["rule", "last"] (sp_walk_of K a) := by
  refine T.F_walk_of.ok sc_walk_of (fun vs H Q E h => spP_len (n := 2) (fun r => rfl) h) (fun cdv A outer s H vs Q E hr h => ?_)
  refine ⟨_, (pss_cons (ps_set (i := 2) sc_walk_of.nd rfl (by first | exact Or.inl rfl | exact Or.inr rfl) (pe_lst (pa_ints (ns := [1]) (by rfl))))
      (pss_cons (ps_set (i := 3) sc_walk_of.nd rfl (by first | exact Or.inl rfl | exact Or.inr rfl) (pe_call (ok_doubled T) (hr.mono (by decide)) rfl T.m_doubled T.F_doubled.kp T.b_doubled .nil pass0 (pa_cons pe_int (pa_cons (pv 0) (pa_cons (pv 1) pa_nil)))))
      (pss_cons (ps_while PassesOwn.never (pt_cmpR op_ne (pv 3) pe_int (nomark _))
        (pss_cons (ps_expr (pe_bm PySem.F.plainAttrs_list PySem.F.slot_list_append PySem.F.type_list_append mt_append (pv 2) (pa_cons (pv 3) pa_nil)))
      (pss_cons (ps_set (i := 3) sc_walk_of.nd rfl (by first | exact Or.inl rfl | exact Or.inr rfl) (pe_call (ok_doubled T) (hr.mono (by decide)) rfl T.m_doubled T.F_doubled.kp T.b_doubled .nil pass0 (pa_cons (pv 3) (pa_cons (pv 0) (pa_cons (pv 1) pa_nil)))))
      pss_nil)))
      (pss_cons (ps_ret (pv 2))
      pss_nil)))), ?_⟩
  refine spP_body (L := exL a) (mb := (fun (r : Int × Int) => mb_walk_of r.1 r.2)) (fun r => rfl) (fun r => by show 2 ≤ 4; decide) (by show 4 < 1000; decide) h (fun B0 hn r o_ hm hf => ?_)
  replace hn : B0.n = 4 := hn
  obtain ⟨rule, last⟩ := r
  replace hm : mb_walk_of rule last = some o_ := hm
  unfold mb_walk_of at hm
  show G B0 _ [(0, .fz tInt rule), (1, .fz tInt last)] _
  refine letE hm ?_; clear hm; intro found e_found hm
  refine g_asgO (μ := (oL (oF tInt))) (by rw [hn]; decide) (so_eq e_found (So.ofO (smo_ints (by decide)))) ?_
  refine bindE hm ?_; clear hm; intro y h_y hm
  refine g_asg (τ := tInt) (by rw [hn]; decide) (Sm.ofS (so_call (((1 : Int), rule, last)) h_y (sma_cons sm_int (sma_cons (sm_var rfl) (sma_cons (sm_var rfl) sma_nil)))) frz_F) ?_
  refine g_while (S := (List Int) × Int) (fun (s : (List Int) × Int) => [(0, .fz tInt rule), (1, .fz tInt last), (2, .ow none (oL (oF tInt)) s.1), (3, .fz tInt s.2)]) hm hf ⟨rfl, rfl, rfl, rfl, trivial⟩ (fun s_ b hm => (smt_eq (Option.some.inj hm) (smt_tt (sm_op (sm_var rfl) sm_int ov_neI)))) ?_ ?_
  ·
    intro s_1 D_ o_ hc_ hm hf
    unfold mL_walk_of_0 at hm
    show G B0 _ [(0, .fz tInt rule), (1, .fz tInt last), (2, .ow none (oL (oF tInt)) s_1.1), (3, .fz tInt s_1.2)] _
    refine guardE hm ?_; clear hm; intro g_ hm
    refine letE hm ?_; clear hm; intro found1 e_found1 hm
    refine g_appendP (K := K) (pth_var rfl) (So.of (sm_var rfl)) g_ e_found1 ?_
    refine bindE hm ?_; clear hm; intro y1 h_y1 hm
    refine g_asg (τ := tInt) (by rw [hn]; decide) (Sm.ofS (so_call ((s_1.2, rule, last)) h_y1 (sma_cons (sm_var rfl) (sma_cons (sm_var rfl) (sma_cons (sm_var rfl) sma_nil)))) frz_F) ?_
    cases hm
    exact g_nx hf ⟨rfl, rfl, rfl, rfl, trivial⟩
  ·
    intro s_2 hm
    show G B0 _ [(0, .fz tInt rule), (1, .fz tInt last), (2, .ow none (oL (oF tInt)) s_2.1), (3, .fz tInt s_2.2)] _
    unfold mK_walk_of_0 at hm
    cases hm
    exact g_retV (Le.refl B0) hf trivial (by decide) rfl
def sp_Field___init__ (K : PySem.W.Frag) (a : Ad) : Sp := spI (exL a) a.c_Field (fun (r : Int) => ([⟨tInt, r⟩] : List As)) (fun (r : Int) => m_Field___init__ r) (oschField a)
set_option maxHeartbeats 4000000 in
theorem ok_Field___init__ {P : Program} {w : World} {K : PySem.W.Frag} {mg : PySem.Str → Option Value} {base : Heap} {a : Ad} (T : Tx K mg a) : FnOk P w K mg base (L2.CX P w) 3 a.f_Field___init__ a.d_Field___init__ ["self", "rule"] (sp_Field___init__ K a) := by
  refine T.F_Field___init__.okX sc_Field___init__ (fun vs H Q E h => spI_len (n := 1) (fun r => rfl) h) (fun cdv A outer s H vs Q E hr h => ?_)
  refine ⟨_, (pss_cons (ps_if (PW.pt (pw_or (pt_not (pt_chain op_le op_lt (pe_gI T.g_LEAST_RULE) (pv 1) (pe_gI T.g_END_OF_RULES))) (pw_or1 (pt_cmpR op_eq (pe_op op_modN (pv 1) pe_int) pe_int (nomark _))))) (pss_cons (ps_rs rfl (takes_of rfl rfl rfl rfl) (pmk_oex T.O_NoField T.iC_NoField T.tI_NoField (ok_NoField___init__ T) (hr.mono (by decide)) T.b_NoField___init__ .nil pass0 rfl T.m_NoField (pa_cons (pv 1) (pa_cons pe_int pa_nil))))
      pss_nil) pss_nil)
      (pss_cons (ps_fld (pv 0) (pv 1) rfl)
      (pss_cons (ps_fld (pv 0) (pe_op op_sub (pe_bits (pv 1)) pe_int) rfl)
      (pss_cons (ps_fld (pv 0) (pe_op op_sub (pe_op op_shlW pe_int (pe_fld (pv 0) rfl)) pe_int) rfl)
      (pss_cons (ps_fld (pv 0) (pe_call (ok_walk_of T) (hr.mono (by decide)) rfl T.m_walk_of T.F_walk_of.kp T.b_walk_of .nil pass0 (pa_cons (pv 1) (pa_cons (pe_fld (pv 0) rfl) pa_nil))) rfl)
      (pss_cons (ps_if (pt_cmpR op_lt (pe_callB call_len_seq (by rfl) T.n_len bb_len (pa_cons (pe_fld (pv 0) rfl) pa_nil)) (pe_fld (pv 0) rfl) (nomark _)) (pss_cons (ps_rs rfl (takes_of rfl rfl rfl rfl) (pmk_oex T.O_NoField T.iC_NoField T.tI_NoField (ok_NoField___init__ T) (hr.mono (by decide)) T.b_NoField___init__ .nil pass0 rfl T.m_NoField (pa_cons (pv 1) (pa_cons (pe_callB call_len_seq (by rfl) T.n_len bb_len (pa_cons (pe_fld (pv 0) rfl) pa_nil)) pa_nil))))
      pss_nil) pss_nil)
      (pss_cons (ps_fld (pv 0) (pe_op op_rep (pe_lst (pa_ints (ns := [0]) (by rfl))) (pe_op op_add (pe_fld (pv 0) rfl) pe_int)) rfl)
      (pss_cons (ps_for (passes_of rfl) rfl (pi_enum (by rfl) T.n_enumerate (pa_cons (pe_fld (pv 0) rfl) pa_nil)) (pg_tup rfl (pgs_cons (pg_name (i := 2) sc_Field___init__.nd rfl (by first | exact Or.inl rfl | exact Or.inr rfl)) (pgs_cons (pg_name (i := 3) sc_Field___init__.nd rfl (by first | exact Or.inl rfl | exact Or.inr rfl)) pgs_nil)))
        (pss_cons (ps_asg (pv 2) (pg_sub (pe_fld (pv 0) rfl) (pv 3) set_list))
      pss_nil))
      pss_nil)))))))), ?_⟩
  refine spI_body (mb := (fun (r : Int) => mb_Field___init__ r)) (fun r => rfl) (fun r => by show 2 ≤ 4; decide) (by show 4 < 1000; decide) h (fun B0 hn p rule o_ hm hf => ?_)
  replace hn : B0.n = 4 := hn
  replace hm : mb_Field___init__ rule = some o_ := hm
  unfold mb_Field___init__ at hm
  show G B0 _ [(0, .fz tAt p), (1, .fz tInt rule), (1000, .ow (some p) (oPart a.c_Field []) ())] _
  refine g_if (smt_or (smt_not (smt_tt (sm_chain sm_int (sm_var rfl) ov_le (fun _ => sm_int) (fun _ => ov_lt)))) (fun hb => (smt_tt (sm_op (sm_op (sm_var rfl) sm_int (ov_modP (by decide))) sm_int ov_eqI)))) (fun hc => ?_) (fun hc => ?_)
  ·
    replace hm := ifT hc hm
    refine g_assoc ?_
    exact g_raise (smr_oex2 (k := 1) xk_NoField (by decide +kernel) (sm_var rfl) sm_int) (fin_er (tt := ()) (Option.some.inj hm).symm hf trivial)
  ·
    replace hm := ifF hc hm
    refine g_next ?_
    refine g_fldI (i := 1000) (ν := (oF tInt)) T.C_Field T.n_Field_rule (by show 0 < 900; decide) (sm_var rfl) rfl (So.of (sm_var rfl)) ?_
    refine letE hm ?_; clear hm; intro width e_width hm
    refine g_fldI (i := 1000) (ν := (oF tInt)) T.C_Field T.n_Field_width (by show 1 < 900; decide) (sm_var rfl) rfl (so_eq e_width (So.of (sm_op (sm_bits (sm_var rfl)) sm_int ov_sub))) ?_
    refine guardE hm ?_; clear hm; intro g_ hm
    refine letE hm ?_; clear hm; intro last e_last hm
    refine g_fldI (i := 1000) (ν := (oF tInt)) T.C_Field T.n_Field_last (by show 2 < 900; decide) (sm_var rfl) rfl (so_eq e_last (So.of (sm_op (sm_op sm_int (sm_fldI (i := 1000) ["rule", "width"] 1 (by decide +kernel) T.C_Field T.n_Field_width (sm_var rfl) rfl rfl rfl) (ov_shlG g_)) sm_int ov_sub))) ?_
    refine bindE hm ?_; clear hm; intro y h_y hm
    refine g_fldI (i := 1000) (ν := (oF (tList tInt))) T.C_Field T.n_Field_powers (by show 3 < 900; decide) (sm_var rfl) rfl (So.of (Sm.ofS (so_call ((rule, last)) h_y (sma_cons (sm_var rfl) (sma_cons (sm_fldI (i := 1000) ["rule", "width", "last"] 2 (by decide +kernel) T.C_Field T.n_Field_last (sm_var rfl) rfl rfl rfl) sma_nil))) (frz_L frz_F))) ?_
    refine g_if (smt_tt (sm_op (sm_len (SmL.of (sm_fldI (i := 1000) ["rule", "width", "last", "powers"] 3 (by decide +kernel) T.C_Field T.n_Field_powers (sm_var rfl) rfl rfl rfl))) (sm_fldI (i := 1000) ["rule", "width", "last", "powers"] 2 (by decide +kernel) T.C_Field T.n_Field_last (sm_var rfl) rfl rfl rfl) ov_lt)) (fun hc => ?_) (fun hc => ?_)
    ·
      replace hm := ifT hc hm
      refine g_assoc ?_
      exact g_raise (smr_oex2 (k := 1) xk_NoField (by decide +kernel) (sm_var rfl) (sm_len (SmL.of (sm_fldI (i := 1000) ["rule", "width", "last", "powers"] 3 (by decide +kernel) T.C_Field T.n_Field_powers (sm_var rfl) rfl rfl rfl)))) (fin_er (tt := ()) (Option.some.inj hm).symm hf trivial)
    ·
      replace hm := ifF hc hm
      refine g_next ?_
      refine guardE hm ?_; clear hm; intro g_1 hm
      refine letE hm ?_; clear hm; intro logs e_logs hm
      refine g_fldI (i := 1000) (ν := (oL (oF tInt))) T.C_Field T.n_Field_logs (by show 4 < 900; decide) (sm_var rfl) rfl (so_eq e_logs (So.ofO (smo_rep (SmL.of_own (smo_ints (by decide))) (sm_op (sm_fldI (i := 1000) ["rule", "width", "last", "powers"] 2 (by decide +kernel) T.C_Field T.n_Field_last (sm_var rfl) rfl rfl rfl) sm_int ov_add) g_1))) ?_
      refine g_for (S := (List Int)) (τ := (tTup2 tInt tInt)) (fun (s : (List Int)) => [(0, .fz tAt p), (1000, .ow (some p) (oPart a.c_Field [("rule", ⟨(oF tInt), rule⟩), ("width", ⟨(oF tInt), width⟩), ("last", ⟨(oF tInt), last⟩), ("powers", ⟨(oF (tList tInt)), y⟩), ("logs", ⟨(oL (oF tInt)), s⟩)]) ()), (1, .fz tInt rule)]) hm hf (smw_enumF (sm_fldI (i := 1000) ["rule", "width", "last", "powers", "logs"] 3 (by decide +kernel) T.C_Field T.n_Field_powers (sm_var rfl) rfl rfl rfl)) (fun B1 hB => (tgt_tup (by rw [hB, hn]; decide) (by rw [hB, hn]; decide))) ⟨rfl, rfl, rfl, trivial⟩ ?_ ?_
      ·
        intro BL le_BL x s_ D_ o_ hx_x hm hf
        unfold mL_Field___init___0 at hm
        have hn_BL : BL.n = 4 := le_BL.n.trans hn
        show G BL _ [(3, .fz tInt x.2), (2, .fz tInt x.1), (0, .fz tAt p), (1000, .ow (some p) (oPart a.c_Field [("rule", ⟨(oF tInt), rule⟩), ("width", ⟨(oF tInt), width⟩), ("last", ⟨(oF tInt), last⟩), ("powers", ⟨(oF (tList tInt)), y⟩), ("logs", ⟨(oL (oF tInt)), s_⟩)]) ()), (1, .fz tInt rule)] _
        refine guardE hm ?_; clear hm; intro g_2 hm
        refine letE hm ?_; clear hm; intro logs1 e_logs1 hm
        refine g_setI (i := 1000) (ν := (oF tInt)) ["rule", "width", "last", "powers", "logs"] 4 (by decide +kernel) T.C_Field T.n_Field_logs (sm_var rfl) rfl rfl rfl (So.of (sm_var rfl)) (sm_var rfl) g_2 e_logs1 ?_
        cases hm
        exact g_nx hf ⟨rfl, rfl, rfl, trivial⟩
      ·
        intro s_1 hm
        show G B0 _ [(0, .fz tAt p), (1000, .ow (some p) (oPart a.c_Field [("rule", ⟨(oF tInt), rule⟩), ("width", ⟨(oF tInt), width⟩), ("last", ⟨(oF tInt), last⟩), ("powers", ⟨(oF (tList tInt)), y⟩), ("logs", ⟨(oL (oF tInt)), s_1⟩)]) ()), (1, .fz tInt rule)] _
        unfold mK_Field___init___0 at hm
        refine letE hm ?_; clear hm; intro ob e_ob hm
        cases hm
        refine g_done (sch := oschField a) (x := ob) 1000 rfl (by subst e_ob; rfl) (g_nx hf ⟨rfl, trivial⟩)
def sp_Blocks___init__ (K : PySem.W.Frag) (a : Ad) : Sp := spI (exL a) a.c_Blocks (fun (r : FieldV × Int) => ([⟨(tField a), r.1⟩, ⟨tInt, r.2⟩] : List As)) (fun (r : FieldV × Int) => m_Blocks___init__ r.1 r.2) (oschBlocks a)
set_option maxHeartbeats 4000000 in
theorem ok_Blocks___init__ {P : Program} {w : World} {K : PySem.W.Frag} {mg : PySem.Str → Option Value} {base : Heap} {a : Ad} (T : Tx K mg a) : FnOk P w K mg base (L2.CX P w) 3 a.f_Blocks___init__ a.d_Blocks___init__ ["self", "field", "many"] (sp_Blocks___init__ K a) := by
  refine T.F_Blocks___init__.okX sc_Blocks___init__ (fun vs H Q E h => spI_len (n := 2) (fun r => rfl) h) (fun cdv A outer s H vs Q E hr h => ?_)
  refine ⟨_, (pss_cons (ps_if (pt_not (pt_chain op_le op_le pe_int (pv 2) (pe_gI T.g_MOST_SYMBOLS))) (pss_cons (ps_rs rfl (takes_of rfl rfl rfl rfl) (pmk_own PySem.F.excBase_ValueError T.q_NoShape T.m_NoShape T.kx_NoShape (raises_own T.X_NoShape.hs T.X_NoShape.ty) rfl))
      pss_nil) pss_nil)
      (pss_cons (ps_fld (pv 0) (pv 1) rfl)
      (pss_cons (ps_fld (pv 0) (pv 2) rfl)
      (pss_cons (ps_fld (pv 0) (pe_op op_shlW pe_int (pe_op op_mul (pe_fld (pv 1) rfl) (pv 2))) rfl)
      (pss_cons (ps_fld (pv 0) (pe_op op_fdivW (pe_op op_sub (pe_fld (pv 0) rfl) pe_int) (pe_fld (pv 1) rfl)) rfl)
      pss_nil))))), ?_⟩
  refine spI_body (mb := (fun (r : FieldV × Int) => mb_Blocks___init__ r.1 r.2)) (fun r => rfl) (fun r => by show 3 ≤ 3; decide) (by show 3 < 1000; decide) h (fun B0 hn p r o_ hm hf => ?_)
  replace hn : B0.n = 3 := hn
  obtain ⟨field, many⟩ := r
  replace hm : mb_Blocks___init__ field many = some o_ := hm
  unfold mb_Blocks___init__ at hm
  show G B0 _ [(0, .fz tAt p), (1, .fz (tField a) field), (2, .fz tInt many), (1000, .ow (some p) (oPart a.c_Blocks []) ())] _
  refine g_if (smt_not (smt_tt (sm_chain sm_int (sm_var rfl) ov_le (fun _ => sm_int) (fun _ => ov_le)))) (fun hc => ?_) (fun hc => ?_)
  ·
    replace hm := ifT hc hm
    refine g_assoc ?_
    exact g_raise (smr_own (k := 4) xk_NoShape) (fin_er (tt := ()) (Option.some.inj hm).symm hf trivial)
  ·
    replace hm := ifF hc hm
    refine g_next ?_
    refine g_fldI (i := 1000) (ν := (oF (tField a))) T.C_Blocks T.n_Blocks_field (by show 0 < 900; decide) (sm_var rfl) rfl (So.of (sm_var rfl)) ?_
    refine g_fldI (i := 1000) (ν := (oF tInt)) T.C_Blocks T.n_Blocks_many (by show 1 < 900; decide) (sm_var rfl) rfl (So.of (sm_var rfl)) ?_
    refine guardE hm ?_; clear hm; intro g_ hm
    refine guardE hm ?_; clear hm; intro g_1 hm
    refine letE hm ?_; clear hm; intro limit e_limit hm
    refine g_fldI (i := 1000) (ν := (oF tInt)) T.C_Blocks T.n_Blocks_limit (by show 2 < 900; decide) (sm_var rfl) rfl (so_eq e_limit (So.of (sm_op sm_int (sm_op (fld_Field_width T (sm_var rfl)) (sm_var rfl) (ov_mulG g_)) (ov_shlG g_1)))) ?_
    refine guardE hm ?_; clear hm; intro g_2 hm
    refine letE hm ?_; clear hm; intro ones e_ones hm
    refine g_fldI (i := 1000) (ν := (oF tInt)) T.C_Blocks T.n_Blocks_ones (by show 3 < 900; decide) (sm_var rfl) rfl (so_eq e_ones (So.of (sm_op (sm_op (sm_fldI (i := 1000) ["field", "many", "limit"] 2 (by decide +kernel) T.C_Blocks T.n_Blocks_limit (sm_var rfl) rfl rfl rfl) sm_int ov_sub) (fld_Field_last T (sm_var rfl)) (ov_divG g_2)))) ?_
    refine letE hm ?_; clear hm; intro ob e_ob hm
    cases hm
    refine g_done (sch := oschBlocks a) (x := ob) 1000 rfl (by subst e_ob; rfl) (g_nx hf ⟨rfl, trivial⟩)
def sp_Blocks_good (K : PySem.W.Frag) (a : Ad) : Sp := spP (fun (r : BlocksV × Int) => ([⟨(tBlocks a), r.1⟩, ⟨tInt, r.2⟩] : List As)) (fun (r : BlocksV × Int) => m_Blocks_good r.1 r.2) (oF tBool)
set_option maxHeartbeats 4000000 in
theorem ok_Blocks_good {P : Program} {w : World} {K : PySem.W.Frag} {mg : PySem.Str → Option Value} {base : Heap} {a : Ad} (T : Tx K mg a) : FnOk P w K mg base CX0 1 a.f_Blocks_good a.d_Blocks_good ["self", "block"] (sp_Blocks_good K a) := by
  refine T.F_Blocks_good.ok sc_Blocks_good (fun vs H Q E h => spP_len (n := 2) (fun r => rfl) h) (fun cdv A outer s H vs Q E hr h => ?_)
  refine ⟨_, (pss_cons (ps_ret (pe_chain op_le op_lt pe_int (pv 1) (pe_fld (pv 0) rfl)))
      pss_nil), ?_⟩
  refine spP_body (L := exL a) (mb := (fun (r : BlocksV × Int) => mb_Blocks_good r.1 r.2)) (fun r => rfl) (fun r => by show 2 ≤ 2; decide) (by show 2 < 1000; decide) h (fun B0 hn r o_ hm hf => ?_)
  replace hn : B0.n = 2 := hn
  obtain ⟨self, block⟩ := r
  replace hm : mb_Blocks_good self block = some o_ := hm
  unfold mb_Blocks_good at hm
  show G B0 _ [(0, .fz (tBlocks a) self), (1, .fz tInt block)] _
  cases hm
  exact g_ret (Le.refl B0) hf trivial (So.of (sm_chain sm_int (sm_var rfl) ov_le (fun _ => (fld_Blocks_limit T (sm_var rfl))) (fun _ => ov_lt)))
def sp_figures_of (K : PySem.W.Frag) (a : Ad) : Sp := spP (fun (r : BlocksV) => ([⟨(tBlocks a), r⟩] : List As)) (fun (r : BlocksV) => m_figures_of r) (oF tInt)
set_option maxHeartbeats 4000000 in
theorem ok_figures_of {P : Program} {w : World} {K : PySem.W.Frag} {mg : PySem.Str → Option Value} {base : Heap} {a : Ad} (T : Tx K mg a) : FnOk P w K mg base CX0 1 a.f_figures_of a.d_figures_of ["blocks"] (sp_figures_of K a) := by
  refine T.F_figures_of.ok sc_figures_of (fun vs H Q E h => spP_len (n := 1) (fun r => rfl) h) (fun cdv A outer s H vs Q E hr h => ?_)
  refine ⟨_, (pss_cons (ps_ret (pe_op op_fdivW (pe_op op_add (pe_op op_mul (pe_fld (pe_fld (pv 0) rfl) rfl) (pe_fld (pv 0) rfl)) pe_int) pe_int))
      pss_nil), ?_⟩
  refine spP_body (L := exL a) (mb := (fun (r : BlocksV) => mb_figures_of r)) (fun r => rfl) (fun r => by show 1 ≤ 1; decide) (by show 1 < 1000; decide) h (fun B0 hn blocks o_ hm hf => ?_)
  replace hn : B0.n = 1 := hn
  replace hm : mb_figures_of blocks = some o_ := hm
  unfold mb_figures_of at hm
  show G B0 _ [(0, .fz (tBlocks a) blocks)] _
  refine guardE hm ?_; clear hm; intro g_ hm
  cases hm
  exact g_ret (Le.refl B0) hf trivial (So.of (sm_op (sm_op (sm_op (fld_Field_width T (fld_Blocks_field T (sm_var rfl))) (fld_Blocks_many T (sm_var rfl)) (ov_mulG g_)) sm_int ov_add) sm_int (ov_divG (by decide))))
def sp_shown_block (K : PySem.W.Frag) (a : Ad) : Sp := spP (fun (r : BlocksV × Int) => ([⟨(tBlocks a), r.1⟩, ⟨tInt, r.2⟩] : List As)) (fun (r : BlocksV × Int) => m_shown_block r.1 r.2) (oF tStr)
set_option maxHeartbeats 4000000 in
theorem ok_shown_block {P : Program} {w : World} {K : PySem.W.Frag} {mg : PySem.Str → Option Value} {base : Heap} {a : Ad} (T : Tx K mg a) : FnOk P w K mg base CX0 2 a.f_shown_block a.d_shown_block ["blocks", "block"] (sp_shown_block K a) := by
  refine T.F_shown_block.ok sc_shown_block (fun vs H Q E h => spP_len (n := 2) (fun r => rfl) h) (fun cdv A outer s H vs Q E hr h => ?_)
  refine ⟨_, (pss_cons (ps_set (i := 2) sc_shown_block.nd rfl (by first | exact Or.inl rfl | exact Or.inr rfl) pe_str)
      (pss_cons (ps_while PassesOwn.never (pt_cmpR op_gt (pv 1) pe_int (nomark _))
        (pss_cons (ps_asg (pe_callB call_divmod (by rfl) T.n_divmod bb_divmod (pa_cons (pv 1) (pa_cons pe_int pa_nil))) (pg_tup rfl (pgs_cons (pg_name (i := 1) sc_shown_block.nd rfl (by first | exact Or.inl rfl | exact Or.inr rfl)) (pgs_cons (pg_name (i := 3) sc_shown_block.nd rfl (by first | exact Or.inl rfl | exact Or.inr rfl)) pgs_nil))))
      (pss_cons (ps_set (i := 2) sc_shown_block.nd rfl (by first | exact Or.inl rfl | exact Or.inr rfl) (pe_op op_add_str (pe_ix ix_str (pe_gS T.g_FIGURES) (pv 3) (fun _ _ => rfl)) (pv 2)))
      pss_nil)))
      (pss_cons (ps_ret (pe_zfill (pv 2) (pe_call (ok_figures_of T) (hr.mono (by decide)) rfl T.m_figures_of T.F_figures_of.kp T.b_figures_of .nil pass0 (pa_cons (pv 0) pa_nil))))
      pss_nil))), ?_⟩
  refine spP_body (L := exL a) (mb := (fun (r : BlocksV × Int) => mb_shown_block r.1 r.2)) (fun r => rfl) (fun r => by show 2 ≤ 4; decide) (by show 4 < 1000; decide) h (fun B0 hn r o_ hm hf => ?_)
  replace hn : B0.n = 4 := hn
  obtain ⟨blocks, block⟩ := r
  replace hm : mb_shown_block blocks block = some o_ := hm
  unfold mb_shown_block at hm
  show G B0 _ [(0, .fz (tBlocks a) blocks), (1, .fz tInt block)] _
  refine letE hm ?_; clear hm; intro found e_found hm
  refine g_asg (τ := tStr) (by rw [hn]; decide) (sm_eq e_found sm_str) ?_
  refine g_while (S := Int × PySem.Str) (fun (s : Int × PySem.Str) => [(0, .fz (tBlocks a) blocks), (1, .fz tInt s.1), (2, .fz tStr s.2)]) hm hf ⟨rfl, rfl, rfl, trivial⟩ (fun s_ b hm => (smt_eq (Option.some.inj hm) (smt_tt (sm_op (sm_var rfl) sm_int ov_gt)))) ?_ ?_
  ·
    intro s_1 D_ o_ hc_ hm hf
    unfold mL_shown_block_0 at hm
    show G B0 _ [(0, .fz (tBlocks a) blocks), (1, .fz tInt s_1.1), (2, .fz tStr s_1.2)] _
    refine letE hm ?_; clear hm; intro pr e_pr hm
    refine g_asgT (K := K) (τ := tInt) (υ := tInt) (p := pr) (by rw [hn]; decide) (by rw [hn]; decide) (sm_eq e_pr (sm_divmod (sm_var rfl) sm_int ⟨by decide, by decide⟩)) ?_
    refine bindE hm ?_; clear hm; intro y h_y hm
    refine guardE hm ?_; clear hm; intro g_ hm
    refine letE hm ?_; clear hm; intro found1 e_found1 hm
    refine g_asg (τ := tStr) (by rw [hn]; decide) (sm_eq e_found1 (sm_op (sm_op sm_str (sm_var rfl) (ov_ixS h_y)) (sm_var rfl) (ov_addS g_))) ?_
    cases hm
    exact g_nx hf ⟨rfl, rfl, rfl, trivial⟩
  ·
    intro s_2 hm
    show G B0 _ [(0, .fz (tBlocks a) blocks), (1, .fz tInt s_2.1), (2, .fz tStr s_2.2)] _
    unfold mK_shown_block_0 at hm
    refine bindE hm ?_; clear hm; intro y1 h_y1 hm
    refine guardE hm ?_; clear hm; intro g_1 hm
    cases hm
    exact g_ret (Le.refl B0) hf trivial (So.of (sm_zfill g_1 (sm_var rfl) (Sm.ofS (so_call (blocks) h_y1 (sma_cons (sm_var rfl) sma_nil)) frz_F)))
def sp_read_block (K : PySem.W.Frag) (a : Ad) : Sp := spX (exL a) (fun (r : BlocksV × PySem.Str) => ([⟨(tBlocks a), r.1⟩, ⟨tStr, r.2⟩] : List As)) (fun (r : BlocksV × PySem.Str) => m_read_block r.1 r.2) (oF tInt)
set_option maxHeartbeats 4000000 in
theorem ok_read_block {P : Program} {w : World} {K : PySem.W.Frag} {mg : PySem.Str → Option Value} {base : Heap} {a : Ad} (T : Tx K mg a) : FnOk P w K mg base (L2.CX P w) 3 a.f_read_block a.d_read_block ["blocks", "text"] (sp_read_block K a) := by
  refine T.F_read_block.okX sc_read_block (fun vs H Q E h => spX_len (n := 2) (fun r => rfl) h) (fun cdv A outer s H vs Q E hr h => ?_)
  refine ⟨_, (pss_cons (ps_if (pt_cmpR op_ne (pe_callB call_len_str (by rfl) T.n_len bb_len (pa_cons (pv 1) pa_nil)) (pe_call (ok_figures_of T) (hr.mono (by decide)) rfl T.m_figures_of T.F_figures_of.kp T.b_figures_of .nil pass0 (pa_cons (pv 0) pa_nil)) (nomark _)) (pss_cons (ps_rs rfl (takes_of rfl rfl rfl rfl) (pmk_own PySem.F.excBase_ValueError T.q_NoLine T.m_NoLine T.kx_NoLine (raises_own T.X_NoLine.hs T.X_NoLine.ty) rfl))
      pss_nil) pss_nil)
      (pss_cons (ps_set (i := 2) sc_read_block.nd rfl (by first | exact Or.inl rfl | exact Or.inr rfl) pe_int)
      (pss_cons (ps_for (passes_of rfl) rfl (pi_str (pv 1)) (pg_name (i := 3) sc_read_block.nd rfl (by first | exact Or.inl rfl | exact Or.inr rfl))
        (pss_cons (ps_if (pt_cmpR op_notIn_sign (pv 3) (pe_gS T.g_FIGURES) (by rfl)) (pss_cons (ps_rs rfl (takes_of rfl rfl rfl rfl) (pmk_own PySem.F.excBase_ValueError T.q_NoLine T.m_NoLine T.kx_NoLine (raises_own T.X_NoLine.hs T.X_NoLine.ty) rfl))
      pss_nil) pss_nil)
      (pss_cons (ps_set (i := 2) sc_read_block.nd rfl (by first | exact Or.inl rfl | exact Or.inr rfl) (pe_op op_or (pe_op op_shlW (pv 2) pe_int) (pe_find (pe_gS T.g_FIGURES) (pv 3))))
      pss_nil)))
      (pss_cons (ps_if (pt_not (pt_val (pe_meth (pv 0) T.C_Blocks T.e_Blocks_good (ok_Blocks_good T) (hr.mono (by decide)) T.b_Blocks_good .nil pass0 (pa_cons (pv 2) pa_nil)))) (pss_cons (ps_rs rfl (takes_of rfl rfl rfl rfl) (pmk_own PySem.F.excBase_ValueError T.q_NoLine T.m_NoLine T.kx_NoLine (raises_own T.X_NoLine.hs T.X_NoLine.ty) rfl))
      pss_nil) pss_nil)
      (pss_cons (ps_ret (pv 2))
      pss_nil))))), ?_⟩
  refine spX_body (mb := (fun (r : BlocksV × PySem.Str) => mb_read_block r.1 r.2)) (fun r => rfl) (fun r => by show 2 ≤ 4; decide) (by show 4 < 1000; decide) h (fun B0 hn r o_ hm hf => ?_)
  replace hn : B0.n = 4 := hn
  obtain ⟨blocks, text⟩ := r
  replace hm : mb_read_block blocks text = some o_ := hm
  unfold mb_read_block at hm
  show G B0 _ [(0, .fz (tBlocks a) blocks), (1, .fz tStr text)] _
  refine guardE hm ?_; clear hm; intro g_ hm
  refine bindE hm ?_; clear hm; intro y h_y hm
  refine g_if (smt_tt (sm_op (sm_lenS g_ (sm_var rfl)) (Sm.ofS (so_call (blocks) h_y (sma_cons (sm_var rfl) sma_nil)) frz_F) ov_neI)) (fun hc => ?_) (fun hc => ?_)
  ·
    replace hm := ifT hc hm
    refine g_assoc ?_
    exact g_raise (smr_own (k := 11) xk_NoLine) (fin_er (tt := ()) (Option.some.inj hm).symm hf trivial)
  ·
    replace hm := ifF hc hm
    refine g_next ?_
    refine g_asg (τ := tInt) (by rw [hn]; decide) sm_int ?_
    refine g_for (S := Int) (τ := tStr) (fun (s : Int) => [(0, .fz (tBlocks a) blocks), (1, .fz tStr text), (2, .fz tInt s)]) hm hf (smw_str (sm_var rfl)) (fun B1 hB => (tgt_name (by rw [hB, hn]; decide))) ⟨rfl, rfl, rfl, trivial⟩ ?_ ?_
    ·
      intro BL le_BL x s_ D_ o_ hx_x hm hf
      unfold mL_read_block_0 at hm
      have hn_BL : BL.n = 4 := le_BL.n.trans hn
      show G BL _ [(3, .fz tStr x), (0, .fz (tBlocks a) blocks), (1, .fz tStr text), (2, .fz tInt s_)] _
      refine guardE hm ?_; clear hm; intro g_1 hm
      refine g_if (smt_tt (sm_op (sm_var rfl) sm_str (ov_notInS g_1))) (fun hc => ?_) (fun hc => ?_)
      ·
        replace hm := ifT hc hm
        refine g_assoc ?_
        exact g_raise (smr_own (k := 11) xk_NoLine) (fin_er (tt := ()) (Option.some.inj hm).symm hf trivial)
      ·
        replace hm := ifF hc hm
        refine g_next ?_
        refine guardE hm ?_; clear hm; intro g_2 hm
        refine letE hm ?_; clear hm; intro block e_block hm
        refine g_asg (τ := tInt) (by rw [hn_BL]; decide) (sm_eq e_block (sm_op (sm_op (sm_var rfl) sm_int (ov_shlG g_2)) (sm_find sm_str (sm_var rfl)) ov_or)) ?_
        cases hm
        exact g_nx hf ⟨rfl, rfl, rfl, trivial⟩
    ·
      intro s_1 hm
      show G B0 _ [(0, .fz (tBlocks a) blocks), (1, .fz tStr text), (2, .fz tInt s_1)] _
      unfold mK_read_block_0 at hm
      refine bindE hm ?_; clear hm; intro y1 h_y1 hm
      refine g_if (smt_not (smt_b (Sm.ofS (so_meth ((blocks, s_1)) ns_Blocks (by decide +kernel) h_y1 (sm_var rfl) rfl rfl (sma_cons (sm_var rfl) sma_nil)) frz_F))) (fun hc => ?_) (fun hc => ?_)
      ·
        replace hm := ifT hc hm
        refine g_assoc ?_
        exact g_raise (smr_own (k := 11) xk_NoLine) (fin_er (tt := ()) (Option.some.inj hm).symm hf trivial)
      ·
        replace hm := ifF hc hm
        refine g_next ?_
        cases hm
        exact g_ret (Le.refl B0) hf trivial (So.of (sm_var rfl))
def sp_cell (K : PySem.W.Frag) (a : Ad) : Sp := spP (fun (r : (List Int) × Int) => ([⟨(tScr K), r.1⟩, ⟨tInt, r.2⟩] : List As)) (fun (r : (List Int) × Int) => m_cell r.1 r.2) (oF tInt)
set_option maxHeartbeats 4000000 in
theorem ok_cell {P : Program} {w : World} {K : PySem.W.Frag} {mg : PySem.Str → Option Value} {base : Heap} {a : Ad} (T : Tx K mg a) : FnOk P w K mg base CX0 1 a.f_cell a.d_cell ["_law_script", "_law_k"] (sp_cell K a) := by
  refine T.F_cell.ok sc_cell (fun vs H Q E h => spP_len (n := 2) (fun r => rfl) h) (fun cdv A outer s H vs Q E hr h => ?_)
  refine ⟨_, (pss_cons (ps_if (pt_cmpR op_lt (pv 1) (pe_callB call_len_seq (by rfl) T.n_len bb_len (pa_cons (pv 0) pa_nil)) (nomark _)) (pss_cons (ps_ret (pe_ix ix_list (pv 0) (pv 1) (fun _ _ => rfl)))
      pss_nil) pss_nil)
      (pss_cons (ps_set (i := 2) sc_cell.nd rfl (by first | exact Or.inl rfl | exact Or.inr rfl) (pe_op op_add (pe_op op_mul pe_int (pv 1)) pe_int))
      (pss_cons (ps_if (pt_cmpR op_gt (pe_callB call_len_seq (by rfl) T.n_len bb_len (pa_cons (pv 0) pa_nil)) pe_int (nomark _)) (pss_cons (ps_set (i := 2) sc_cell.nd rfl (by first | exact Or.inl rfl | exact Or.inr rfl) (pe_op op_add (pv 2) (pe_op op_mul (pe_op op_modN (pe_ix ix_list (pv 0) (pe_op op_modN (pe_op op_mul pe_int (pv 1)) (pe_callB call_len_seq (by rfl) T.n_len bb_len (pa_cons (pv 0) pa_nil))) (fun _ _ => rfl)) pe_int) (pe_op op_add (pv 1) pe_int))))
      pss_nil) pss_nil)
      (pss_cons (ps_ret (pe_op op_modN (pe_op op_mul (pv 2) (pv 2)) pe_int))
      pss_nil)))), ?_⟩
  refine spP_body (L := exL a) (mb := (fun (r : (List Int) × Int) => mb_cell r.1 r.2)) (fun r => rfl) (fun r => by show 2 ≤ 3; decide) (by show 3 < 1000; decide) h (fun B0 hn r o_ hm hf => ?_)
  replace hn : B0.n = 3 := hn
  obtain ⟨script, k⟩ := r
  replace hm : mb_cell script k = some o_ := hm
  unfold mb_cell at hm
  show G B0 _ [(0, .fz (tScr K) script), (1, .fz tInt k)] _
  refine g_if (smt_tt (sm_op (sm_var rfl) (sm_lenScr (sm_var rfl)) ov_lt)) (fun hc => ?_) (fun hc => ?_)
  ·
    replace hm := ifT hc hm
    refine g_assoc ?_
    refine guardE hm ?_; clear hm; intro g_ hm
    refine bindE hm ?_; clear hm; intro y h_y hm
    cases hm
    exact g_ret (Le.refl B0) hf trivial (So.of (sm_ixScrO g_ h_y (sm_var rfl) (sm_var rfl)))
  ·
    replace hm := ifF hc hm
    refine g_next ?_
    refine letE hm ?_; clear hm; intro number_here e_number_here hm
    refine g_asg (τ := tInt) (by rw [hn]; decide) (sm_eq e_number_here (sm_op (sm_op sm_int (sm_var rfl) (ov_mulG (.inl (by decide)))) sm_int ov_add)) ?_
    refine g_join (S := Int) (fun (s : Int) => [(0, .fz (tScr K) script), (1, .fz tInt k), (2, .fz tInt s)]) hm hf (smt_tt (sm_op (sm_lenScr (sm_var rfl)) sm_int ov_gt)) (fun hc o_ hm hf => ?_) (fun hc o_ hm hf => ?_) (fun s_ hm => ?_)
    ·
      refine guardE hm ?_; clear hm; intro g_1 hm
      refine guardE hm ?_; clear hm; intro g_2 hm
      refine bindE hm ?_; clear hm; intro y1 h_y1 hm
      refine guardE hm ?_; clear hm; intro g_3 hm
      refine letE hm ?_; clear hm; intro number_here1 e_number_here1 hm
      refine g_asg (τ := tInt) (by rw [hn]; decide) (sm_eq e_number_here1 (sm_op (sm_var rfl) (sm_op (sm_op (sm_ixScrO g_2 h_y1 (sm_var rfl) (sm_op (sm_op sm_int (sm_var rfl) (ov_mulG (.inl (by decide)))) (sm_lenScr (sm_var rfl)) (ov_modP g_1))) sm_int (ov_modP (by decide))) (sm_op (sm_var rfl) sm_int ov_add) (ov_mulG g_3)) ov_add)) ?_
      cases hm
      exact g_nx hf ⟨rfl, rfl, rfl, trivial⟩
    ·
      cases hm
      exact g_nx hf ⟨rfl, rfl, rfl, trivial⟩
    ·
      unfold mK_cell_0 at hm
      refine guardE hm ?_; clear hm; intro g_4 hm
      cases hm
      exact g_ret (Le.refl B0) hf trivial (So.of (sm_op (sm_op (sm_var rfl) (sm_var rfl) (ov_mulG g_4)) sm_int (ov_modP (by decide))))
def sp_rule (K : PySem.W.Frag) (a : Ad) : Sp := spP (fun (r : Int) => ([⟨tInt, r⟩] : List As)) (fun (r : Int) => m_rule r) (oF tInt)
set_option maxHeartbeats 4000000 in
theorem ok_rule {P : Program} {w : World} {K : PySem.W.Frag} {mg : PySem.Str → Option Value} {base : Heap} {a : Ad} (T : Tx K mg a) : FnOk P w K mg base CX0 1 a.f_rule a.d_rule ["_law_cell_here"] (sp_rule K a) := by
  refine T.F_rule.ok sc_rule (fun vs H Q E h => spP_len (n := 1) (fun r => rfl) h) (fun cdv A outer s H vs Q E hr h => ?_)
  refine ⟨_, (pss_cons (ps_ret (pe_ix ix_list (pe_lst (pa_ints (ns := [19, 25, 37, 41, 67, 97, 131, 193, 285, 369]) (by rfl))) (pe_op op_modN (pv 0) pe_int) (fun _ _ => rfl)))
      pss_nil), ?_⟩
  refine spP_body (L := exL a) (mb := (fun (r : Int) => mb_rule r)) (fun r => rfl) (fun r => by show 1 ≤ 1; decide) (by show 1 < 1000; decide) h (fun B0 hn cell_here o_ hm hf => ?_)
  replace hn : B0.n = 1 := hn
  replace hm : mb_rule cell_here = some o_ := hm
  unfold mb_rule at hm
  show G B0 _ [(0, .fz tInt cell_here)] _
  refine bindE hm ?_; clear hm; intro y h_y hm
  cases hm
  exact g_ret (Le.refl B0) hf trivial (So.of (sm_ixO h_y (SmL.of_own (smo_ints (by decide))) (sm_op (sm_var rfl) sm_int (ov_modP (by decide)))))
def sp_hex (K : PySem.W.Frag) (a : Ad) : Sp := spP (fun (r : Int × Int) => ([⟨tInt, r.1⟩, ⟨tInt, r.2⟩] : List As)) (fun (r : Int × Int) => m_hex r.1 r.2) (oF tStr)
set_option maxHeartbeats 4000000 in
theorem ok_hex {P : Program} {w : World} {K : PySem.W.Frag} {mg : PySem.Str → Option Value} {base : Heap} {a : Ad} (T : Tx K mg a) : FnOk P w K mg base CX0 1 a.f_hex a.d_hex ["_law_block", "_law_many"] (sp_hex K a) := by
  refine T.F_hex.ok sc_hex (fun vs H Q E h => spP_len (n := 2) (fun r => rfl) h) (fun cdv A outer s H vs Q E hr h => ?_)
  refine ⟨_, (pss_cons (ps_ret (pe_join pe_str (pe_lc (own := [("_law_k", 2)]) rfl sc_hex.nd (pi_range1 rfl T.n_range (pa_cons (pv 1) pa_nil)) (blkOk_by (own := [("_law_k", 2)]) (N := N_hex) (sc := defScope s_hex) (by decide +kernel)) (fun _ _ _ _ _ => (pg_name (i := 2) sc_hex.nd rfl (by first | exact Or.inl rfl | exact Or.inr rfl))) (fun _ _ _ _ _ => pts_nil) (fun _ _ _ _ _ => (pe_ix ix_str pe_str (pe_op op_and (pe_op op_shr (pv 0) (pe_op op_mul pe_int (pe_op op_sub (pe_op op_sub (pv 1) pe_int) (pv 2)))) pe_int) (fun _ _ => rfl))))))
      pss_nil), ?_⟩
  refine spP_body (L := exL a) (mb := (fun (r : Int × Int) => mb_hex r.1 r.2)) (fun r => rfl) (fun r => by show 2 ≤ 3; decide) (by show 3 < 1000; decide) h (fun B0 hn r o_ hm hf => ?_)
  replace hn : B0.n = 3 := hn
  obtain ⟨block, many⟩ := r
  replace hm : mb_hex block many = some o_ := hm
  unfold mb_hex at hm
  show G B0 _ [(0, .fz tInt block), (1, .fz tInt many)] _
  refine guardE hm ?_; clear hm; intro g_ hm
  refine guardE hm ?_; clear hm; intro g_1 hm
  refine bindE hm ?_; clear hm; intro zs h_zs hm
  refine guardE hm ?_; clear hm; intro g_3 hm
  cases hm
  exact g_ret (Le.refl B0) hf trivial (So.of (sm_join g_3 sm_str (SmL.of (Sm.ofS (smo_lc0M h_zs (smw_range1G g_ (sm_var rfl)) (tgt_name (by rw [hn]; decide)) (by decide) g_1 (fun z hm_ y_ hm => (guardE hm fun g_2 hm => (bindE hm fun y h_y hm => (sm_eq (Option.some.inj hm) (sm_op sm_str (sm_op (sm_op (sm_var rfl) (sm_op sm_int (sm_op (sm_op (sm_var rfl) sm_int ov_sub) (sm_var rfl) ov_sub) (ov_mulG (.inl (by decide)))) (ov_shr g_2)) sm_int ov_and) (ov_ixS h_y))))))) (frz_L frz_F)))))
def sp_sign (K : PySem.W.Frag) (a : Ad) : Sp := spP (fun (r : Int) => ([⟨tInt, r⟩] : List As)) (fun (r : Int) => m_sign r) (oF tStr)
set_option maxHeartbeats 4000000 in
theorem ok_sign {P : Program} {w : World} {K : PySem.W.Frag} {mg : PySem.Str → Option Value} {base : Heap} {a : Ad} (T : Tx K mg a) : FnOk P w K mg base CX0 1 a.f_sign a.d_sign ["_law_cell_here"] (sp_sign K a) := by
  refine T.F_sign.ok sc_sign (fun vs H Q E h => spP_len (n := 1) (fun r => rfl) h) (fun cdv A outer s H vs Q E hr h => ?_)
  refine ⟨_, (pss_cons (ps_set (i := 1) sc_sign.nd rfl (by first | exact Or.inl rfl | exact Or.inr rfl) pe_str)
      (pss_cons (ps_set (i := 1) sc_sign.nd rfl (by first | exact Or.inl rfl | exact Or.inr rfl) (pe_op op_add_str (pv 1) pe_str))
      (pss_cons (ps_ret (pe_ix ix_str (pv 1) (pe_op op_modN (pv 0) pe_int) (fun _ _ => rfl)))
      pss_nil))), ?_⟩
  refine spP_body (L := exL a) (mb := (fun (r : Int) => mb_sign r)) (fun r => rfl) (fun r => by show 1 ≤ 2; decide) (by show 2 < 1000; decide) h (fun B0 hn cell_here o_ hm hf => ?_)
  replace hn : B0.n = 2 := hn
  replace hm : mb_sign cell_here = some o_ := hm
  unfold mb_sign at hm
  show G B0 _ [(0, .fz tInt cell_here)] _
  refine letE hm ?_; clear hm; intro someV e_someV hm
  refine g_asg (τ := tStr) (by rw [hn]; decide) (sm_eq e_someV sm_str) ?_
  refine guardE hm ?_; clear hm; intro g_ hm
  refine letE hm ?_; clear hm; intro someV1 e_someV1 hm
  refine g_asg (τ := tStr) (by rw [hn]; decide) (sm_eq e_someV1 (sm_op (sm_var rfl) sm_str (ov_addS g_))) ?_
  refine bindE hm ?_; clear hm; intro y h_y hm
  cases hm
  exact g_ret (Le.refl B0) hf trivial (So.of (sm_op (sm_var rfl) (sm_op (sm_var rfl) sm_int (ov_modP (by decide))) (ov_ixS h_y)))
def sp_number (K : PySem.W.Frag) (a : Ad) : Sp := spP (fun (r : PySem.Str × Int × Int) => ([⟨tStr, r.1⟩, ⟨tInt, r.2.1⟩, ⟨tInt, r.2.2⟩] : List As)) (fun (r : PySem.Str × Int × Int) => m_number r.1 r.2.1 r.2.2) (oF (tOpt tInt))
set_option maxHeartbeats 4000000 in
theorem ok_number {P : Program} {w : World} {K : PySem.W.Frag} {mg : PySem.Str → Option Value} {base : Heap} {a : Ad} (T : Tx K mg a) : FnOk P w K mg base CX0 1 a.f_number a.d_number ["_law_line", "_law_many", "_law_limit"] (sp_number K a) := by
  refine T.F_number.ok sc_number (fun vs H Q E h => spP_len (n := 3) (fun r => rfl) h) (fun cdv A outer s H vs Q E hr h => ?_)
  refine ⟨_, (pss_cons (ps_if (pt_cmpR op_ne (pe_callB call_len_str (by rfl) T.n_len bb_len (pa_cons (pv 0) pa_nil)) (pv 1) (nomark _)) (pss_cons (ps_ret pe_non)
      pss_nil) pss_nil)
      (pss_cons (ps_set (i := 3) sc_number.nd rfl (by first | exact Or.inl rfl | exact Or.inr rfl) pe_int)
      (pss_cons (ps_for PassesOwn.never rfl (pi_str (pv 0)) (pg_name (i := 4) sc_number.nd rfl (by first | exact Or.inl rfl | exact Or.inr rfl))
        (pss_cons (ps_if (pt_cmpR op_notIn_sign (pv 4) pe_str (by rfl)) (pss_cons (ps_ret pe_non)
      pss_nil) pss_nil)
      (pss_cons (ps_set (i := 3) sc_number.nd rfl (by first | exact Or.inl rfl | exact Or.inr rfl) (pe_op op_add (pe_op op_mul pe_int (pv 3)) (pe_find pe_str (pv 4))))
      pss_nil)))
      (pss_cons (ps_if (pt_cmpR op_ge (pv 3) (pv 2) (nomark _)) (pss_cons (ps_ret pe_non)
      pss_nil) pss_nil)
      (pss_cons (ps_ret (pv 3))
      pss_nil))))), ?_⟩
  refine spP_body (L := exL a) (mb := (fun (r : PySem.Str × Int × Int) => mb_number r.1 r.2.1 r.2.2)) (fun r => rfl) (fun r => by show 3 ≤ 5; decide) (by show 5 < 1000; decide) h (fun B0 hn r o_ hm hf => ?_)
  replace hn : B0.n = 5 := hn
  obtain ⟨line, many, limit⟩ := r
  replace hm : mb_number line many limit = some o_ := hm
  unfold mb_number at hm
  show G B0 _ [(0, .fz tStr line), (1, .fz tInt many), (2, .fz tInt limit)] _
  refine guardE hm ?_; clear hm; intro g_ hm
  refine g_if (smt_tt (sm_op (sm_lenS g_ (sm_var rfl)) (sm_var rfl) ov_neI)) (fun hc => ?_) (fun hc => ?_)
  ·
    replace hm := ifT hc hm
    refine g_assoc ?_
    cases hm
    exact g_ret (Le.refl B0) hf trivial (So.of sm_none)
  ·
    replace hm := ifF hc hm
    refine g_next ?_
    refine g_asg (τ := tInt) (by rw [hn]; decide) sm_int ?_
    refine g_for (S := Int) (τ := tStr) (fun (s : Int) => [(0, .fz tStr line), (1, .fz tInt many), (2, .fz tInt limit), (3, .fz tInt s)]) hm hf (smw_str (sm_var rfl)) (fun B1 hB => (tgt_name (by rw [hB, hn]; decide))) ⟨rfl, rfl, rfl, rfl, trivial⟩ ?_ ?_
    ·
      intro BL le_BL x s_ D_ o_ hx_x hm hf
      unfold mL_number_0 at hm
      have hn_BL : BL.n = 5 := le_BL.n.trans hn
      show G BL _ [(4, .fz tStr x), (0, .fz tStr line), (1, .fz tInt many), (2, .fz tInt limit), (3, .fz tInt s_)] _
      refine guardE hm ?_; clear hm; intro g_1 hm
      refine g_if (smt_tt (sm_op (sm_var rfl) sm_str (ov_notInS g_1))) (fun hc => ?_) (fun hc => ?_)
      ·
        replace hm := ifT hc hm
        refine g_assoc ?_
        cases hm
        exact g_ret ((Le.refl B0).trans le_BL) hf trivial (So.of sm_none)
      ·
        replace hm := ifF hc hm
        refine g_next ?_
        refine letE hm ?_; clear hm; intro number_here e_number_here hm
        refine g_asg (τ := tInt) (by rw [hn_BL]; decide) (sm_eq e_number_here (sm_op (sm_op sm_int (sm_var rfl) (ov_mulG (.inl (by decide)))) (sm_find sm_str (sm_var rfl)) ov_add)) ?_
        cases hm
        exact g_nx hf ⟨rfl, rfl, rfl, rfl, trivial⟩
    ·
      intro s_1 hm
      show G B0 _ [(0, .fz tStr line), (1, .fz tInt many), (2, .fz tInt limit), (3, .fz tInt s_1)] _
      unfold mK_number_0 at hm
      refine g_if (smt_tt (sm_op (sm_var rfl) (sm_var rfl) ov_ge)) (fun hc => ?_) (fun hc => ?_)
      ·
        replace hm := ifT hc hm
        refine g_assoc ?_
        cases hm
        exact g_ret (Le.refl B0) hf trivial (So.of sm_none)
      ·
        replace hm := ifF hc hm
        refine g_next ?_
        cases hm
        exact g_ret (Le.refl B0) hf trivial (So.of (sm_some (sm_var rfl) nn_int))
def sp_spoiled (K : PySem.W.Frag) (a : Ad) : Sp := spP (fun (r : PySem.Str × Int × Int × PySem.Str) => ([⟨tStr, r.1⟩, ⟨tInt, r.2.1⟩, ⟨tInt, r.2.2.1⟩, ⟨tStr, r.2.2.2⟩] : List As)) (fun (r : PySem.Str × Int × Int × PySem.Str) => m_spoiled r.1 r.2.1 r.2.2.1 r.2.2.2) (oF tStr)
set_option maxHeartbeats 4000000 in
theorem ok_spoiled {P : Program} {w : World} {K : PySem.W.Frag} {mg : PySem.Str → Option Value} {base : Heap} {a : Ad} (T : Tx K mg a) : FnOk P w K mg base CX0 1 a.f_spoiled a.d_spoiled ["_law_line", "_law_way", "_law_cell_here", "_law_sign_here"] (sp_spoiled K a) := by
  refine T.F_spoiled.ok sc_spoiled (fun vs H Q E h => spP_len (n := 4) (fun r => rfl) h) (fun cdv A outer s H vs Q E hr h => ?_)
  refine ⟨_, (pss_cons (ps_set (i := 4) sc_spoiled.nd rfl (by first | exact Or.inl rfl | exact Or.inr rfl) (pe_op op_modN (pv 2) (pe_callB call_len_str (by rfl) T.n_len bb_len (pa_cons (pv 0) pa_nil))))
      (pss_cons (ps_if (pt_cmpR op_eq (pv 1) pe_int (nomark _)) (pss_cons (ps_ret (pe_op op_add_str (pe_op op_add_str (pe_slice sl_str (pv 0) po_none (po_some (pv 4))) (pv 3)) (pe_slice sl_str (pv 0) (po_some (pe_op op_add (pv 4) pe_int)) po_none)))
      pss_nil) pss_nil)
      (pss_cons (ps_if (pt_cmpR op_eq (pv 1) pe_int (nomark _)) (pss_cons (ps_ret (pe_op op_add_str (pe_slice sl_str (pv 0) po_none (po_some (pv 4))) (pe_slice sl_str (pv 0) (po_some (pe_op op_add (pv 4) pe_int)) po_none)))
      pss_nil) pss_nil)
      (pss_cons (ps_if (pt_cmpR op_eq (pv 1) pe_int (nomark _)) (pss_cons (ps_set (i := 4) sc_spoiled.nd rfl (by first | exact Or.inl rfl | exact Or.inr rfl) (pe_op op_modN (pv 2) (pe_op op_add (pe_callB call_len_str (by rfl) T.n_len bb_len (pa_cons (pv 0) pa_nil)) pe_int)))
      (pss_cons (ps_ret (pe_op op_add_str (pe_op op_add_str (pe_slice sl_str (pv 0) po_none (po_some (pv 4))) (pv 3)) (pe_slice sl_str (pv 0) (po_some (pv 4)) po_none)))
      pss_nil)) pss_nil)
      (pss_cons (ps_if (pt_cmpR op_eq (pv 1) pe_int (nomark _)) (pss_cons (ps_ret (pe_upper (pv 0)))
      pss_nil) pss_nil)
      (pss_cons (ps_if (pt_cmpR op_eq (pv 1) pe_int (nomark _)) (pss_cons (ps_ret (pe_op op_add_str (pe_ix ix_str pe_str (pe_op op_modN (pv 2) pe_int) (fun _ _ => rfl)) (pe_slice sl_str (pv 0) (po_some pe_int) po_none)))
      pss_nil) pss_nil)
      (pss_cons (ps_if (pt_cmpR op_eq (pv 1) pe_int (nomark _)) (pss_cons (ps_ret pe_str)
      pss_nil) pss_nil)
      (pss_cons (ps_ret (pv 0))
      pss_nil)))))))), ?_⟩
  refine spP_body (L := exL a) (mb := (fun (r : PySem.Str × Int × Int × PySem.Str) => mb_spoiled r.1 r.2.1 r.2.2.1 r.2.2.2)) (fun r => rfl) (fun r => by show 4 ≤ 5; decide) (by show 5 < 1000; decide) h (fun B0 hn r o_ hm hf => ?_)
  replace hn : B0.n = 5 := hn
  obtain ⟨line, way, cell_here, sign_here⟩ := r
  replace hm : mb_spoiled line way cell_here sign_here = some o_ := hm
  unfold mb_spoiled at hm
  show G B0 _ [(0, .fz tStr line), (1, .fz tInt way), (2, .fz tInt cell_here), (3, .fz tStr sign_here)] _
  refine guardE hm ?_; clear hm; intro g_ hm
  refine guardE hm ?_; clear hm; intro g_1 hm
  refine letE hm ?_; clear hm; intro atV e_atV hm
  refine g_asg (τ := tInt) (by rw [hn]; decide) (sm_eq e_atV (sm_op (sm_var rfl) (sm_lenS g_ (sm_var rfl)) (ov_modP g_1))) ?_
  refine g_if (smt_tt (sm_op (sm_var rfl) sm_int ov_eqI)) (fun hc => ?_) (fun hc => ?_)
  ·
    replace hm := ifT hc hm
    refine g_assoc ?_
    refine guardE hm ?_; clear hm; intro g_2 hm
    refine guardE hm ?_; clear hm; intro g_3 hm
    refine guardE hm ?_; clear hm; intro g_4 hm
    refine guardE hm ?_; clear hm; intro g_5 hm
    cases hm
    exact g_ret (Le.refl B0) hf trivial (So.of (sm_op (sm_op (sm_cut01 g_2 (sm_var rfl) (sm_var rfl)) (sm_var rfl) (ov_addS g_3)) (sm_cut10 g_4 (sm_var rfl) (sm_op (sm_var rfl) sm_int ov_add)) (ov_addS g_5)))
  ·
    replace hm := ifF hc hm
    refine g_next ?_
    refine g_if (smt_tt (sm_op (sm_var rfl) sm_int ov_eqI)) (fun hc => ?_) (fun hc => ?_)
    ·
      replace hm := ifT hc hm
      refine g_assoc ?_
      refine guardE hm ?_; clear hm; intro g_6 hm
      refine guardE hm ?_; clear hm; intro g_7 hm
      refine guardE hm ?_; clear hm; intro g_8 hm
      cases hm
      exact g_ret (Le.refl B0) hf trivial (So.of (sm_op (sm_cut01 g_6 (sm_var rfl) (sm_var rfl)) (sm_cut10 g_7 (sm_var rfl) (sm_op (sm_var rfl) sm_int ov_add)) (ov_addS g_8)))
    ·
      replace hm := ifF hc hm
      refine g_next ?_
      refine g_if (smt_tt (sm_op (sm_var rfl) sm_int ov_eqI)) (fun hc => ?_) (fun hc => ?_)
      ·
        replace hm := ifT hc hm
        refine g_assoc ?_
        refine guardE hm ?_; clear hm; intro g_9 hm
        refine guardE hm ?_; clear hm; intro g_10 hm
        refine letE hm ?_; clear hm; intro atV1 e_atV1 hm
        refine g_asg (τ := tInt) (by rw [hn]; decide) (sm_eq e_atV1 (sm_op (sm_var rfl) (sm_op (sm_lenS g_9 (sm_var rfl)) sm_int ov_add) (ov_modP g_10))) ?_
        refine g_assoc ?_
        refine guardE hm ?_; clear hm; intro g_11 hm
        refine guardE hm ?_; clear hm; intro g_12 hm
        refine guardE hm ?_; clear hm; intro g_13 hm
        refine guardE hm ?_; clear hm; intro g_14 hm
        cases hm
        exact g_ret (Le.refl B0) hf trivial (So.of (sm_op (sm_op (sm_cut01 g_11 (sm_var rfl) (sm_var rfl)) (sm_var rfl) (ov_addS g_12)) (sm_cut10 g_13 (sm_var rfl) (sm_var rfl)) (ov_addS g_14)))
      ·
        replace hm := ifF hc hm
        refine g_next ?_
        refine g_if (smt_tt (sm_op (sm_var rfl) sm_int ov_eqI)) (fun hc => ?_) (fun hc => ?_)
        ·
          replace hm := ifT hc hm
          refine g_assoc ?_
          refine guardE hm ?_; clear hm; intro g_15 hm
          cases hm
          exact g_ret (Le.refl B0) hf trivial (So.of (sm_upper g_15 (sm_var rfl)))
        ·
          replace hm := ifF hc hm
          refine g_next ?_
          refine g_if (smt_tt (sm_op (sm_var rfl) sm_int ov_eqI)) (fun hc => ?_) (fun hc => ?_)
          ·
            replace hm := ifT hc hm
            refine g_assoc ?_
            refine bindE hm ?_; clear hm; intro y h_y hm
            refine guardE hm ?_; clear hm; intro g_16 hm
            refine guardE hm ?_; clear hm; intro g_17 hm
            cases hm
            exact g_ret (Le.refl B0) hf trivial (So.of (sm_op (sm_op sm_str (sm_op (sm_var rfl) sm_int (ov_modP (by decide))) (ov_ixS h_y)) (sm_cut10 g_16 (sm_var rfl) sm_int) (ov_addS g_17)))
          ·
            replace hm := ifF hc hm
            refine g_next ?_
            refine g_if (smt_tt (sm_op (sm_var rfl) sm_int ov_eqI)) (fun hc => ?_) (fun hc => ?_)
            ·
              replace hm := ifT hc hm
              refine g_assoc ?_
              cases hm
              exact g_ret (Le.refl B0) hf trivial (So.of sm_str)
            ·
              replace hm := ifF hc hm
              refine g_next ?_
              cases hm
              exact g_ret (Le.refl B0) hf trivial (So.of (sm_var rfl))
def sp_read (K : PySem.W.Frag) (a : Ad) : Sp := spP (fun (r : BlocksV × PySem.Str × (Option Int)) => ([⟨(tBlocks a), r.1⟩, ⟨tStr, r.2.1⟩, ⟨(tOpt tInt), r.2.2⟩] : List As)) (fun (r : BlocksV × PySem.Str × (Option Int)) => m_read r.1 r.2.1 r.2.2) (oF tBool)
set_option maxHeartbeats 4000000 in
theorem ok_read {P : Program} {w : World} {K : PySem.W.Frag} {mg : PySem.Str → Option Value} {base : Heap} {a : Ad} (T : Tx K mg a) : FnOk P w K mg base CX0 4 a.f_read a.d_read ["_law_blocks", "_law_line", "_law_due"] (sp_read K a) := by
  refine T.F_read.ok sc_read (fun vs H Q E h => spP_len (n := 3) (fun r => rfl) h) (fun cdv A outer s H vs Q E hr h => ?_)
  refine ⟨_, (pss_cons (WX.ps_try_asV (i := 4) rfl rfl sc_read.nd rfl rfl ⟨rfl, by decide, .inl T.m_PlankError⟩ takes0
        (fun W pn xe tk hpo => (pss_cons (ps_set (i := 3) sc_read.nd rfl (by first | exact Or.inl rfl | exact Or.inr rfl) (pe_callSD (ok_read_block T) (hr.mono (by decide)) rfl T.m_read_block T.F_read_block.kp T.b_read_block .nil (fun σ => passAt tk σ) (pa_cons (pv 0) (pa_cons (pv 1) pa_nil))))
      pss_nil))
        (fun a_ pn => (pss_cons (ps_ret (pe_and (pe_cmpR op_isN (pv 2) pe_non (nomark _)) (pe_and (pe_callB WX.call_isV (by rfl) T.n_isinstance bb_isinstance (pa_cons (pv 4) (pa_cons (pe_cls T.m_NoLine) pa_nil))) (pe_and (pe_callB WX.call_isV (by rfl) T.n_isinstance bb_isinstance (pa_cons (pv 4) (pa_cons (pe_ty T.n_ValueError bb_ValueError) pa_nil))) (pe_one (pe_not (pe_callB WX.call_isV (by rfl) T.n_isinstance bb_isinstance (pa_cons (pv 4) (pa_cons (pe_cls T.m_NoBlock) pa_nil)))))))))
      pss_nil)))
      (pss_cons (ps_ret (pe_and (pe_callB call_isi (by rfl) T.n_isinstance bb_isinstance (pa_cons (pv 3) (pa_cons (pe_ty T.n_int bb_int) pa_nil))) (pe_and (pe_not (pe_callB call_isi (by rfl) T.n_isinstance bb_isinstance (pa_cons (pv 3) (pa_cons (pe_ty T.n_bool bb_bool) pa_nil)))) (pe_one (pe_cmpR (op_eqD hr.units) (pv 3) (pv 2) (nomark _))))))
      pss_nil)), ?_⟩
  refine spP_body (L := exL a) (mb := (fun (r : BlocksV × PySem.Str × (Option Int)) => mb_read r.1 r.2.1 r.2.2)) (fun r => rfl) (fun r => by show 3 ≤ 5; decide) (by show 5 < 1000; decide) h (fun B0 hn r o_ hm hf => ?_)
  replace hn : B0.n = 5 := hn
  obtain ⟨blocks, line, due⟩ := r
  replace hm : mb_read blocks line due = some o_ := hm
  unfold mb_read at hm
  show G B0 _ [(0, .fz (tBlocks a) blocks), (1, .fz tStr line), (2, .fz (tOpt tInt) due)] _
  refine g_tryM (S := Int) (T' := Unit) (Xs := [0, 1, 2, 3, 4, 5, 6, 7, 8, 9, 10, 11]) (i := 4) (fun (s : Int) => [(0, .fz (tBlocks a) blocks), (1, .fz tStr line), (2, .fz (tOpt tInt) due), (3, .fz tInt s)]) (fun (s : Unit) => [(0, .fz (tBlocks a) blocks), (1, .fz tStr line), (2, .fz (tOpt tInt) due)]) hm hf (fun _ => rfl) (fun c => c.elim) (all_t_PlankError T) (by rw [hn]; decide) (fun W D_ o_ hm hf => ?_) (fun ex s_ a_ pn_ D_ o_ hx_ hm hf => ?_) ?_ (fun s_1 hm => ?_)
  ·
    refine callE hm ?_; clear hm; intro r_ h_r_ hok her
    refine g_asgX (τ := tInt) frz_F (by rw [hn]; decide) (sox_call ((blocks, line)) h_r_ (sma_cons (sm_var rfl) (sma_cons (sm_var rfl) sma_nil))) (fun found h_found => ?_) (fun e h_e => fin_er (her e h_e) hf ⟨rfl, rfl, rfl, trivial⟩)
    have hm := hok found h_found; clear hok her
    cases hm
    exact g_nx hf ⟨rfl, rfl, rfl, rfl, trivial⟩
  ·
    rw [if_pos hx_] at hm
    cases hm
    exact g_ret (Le.refl B0) hf trivial (So.of (sm_andV (sm_isN (sm_var rfl)) (fun hb => (sm_andV (sm_isVd (sm_var rfl) rfl rel_ref (all_is_NoLine T)) (fun hb => (sm_andV (sm_isVd (sm_var rfl) rfl rel_ty (all_isV T)) (fun hb => (sm_notV (sm_isVd (sm_var rfl) rfl rel_ref (all_is_NoBlock T))))))))))
  ·
    intro ex s_ o_ hx_ hm; rw [if_neg hx_] at hm; cases hm
  ·
    unfold mK_read_0 at hm
    cases hm
    exact g_ret (Le.refl B0) hf trivial (So.of (sm_andV (sm_isi (b := true) (sm_var rfl) ti_int (by decide +kernel)) (fun hb => (sm_andV (sm_notV (sm_isi (b := false) (sm_var rfl) ti_int (by decide +kernel))) (fun hb => (sm_eqT eq_optI (by decide) (sm_some (sm_var rfl) nn_int) (sm_var rfl)))))))
def sp_law (K : PySem.W.Frag) (a : Ad) : Sp := spP (fun (r : (List Int)) => ([⟨(tScr K), r⟩] : List As)) (fun (r : (List Int)) => m_law r) (oF tBool)
set_option maxHeartbeats 4000000 in
theorem ok_law {P : Program} {w : World} {K : PySem.W.Frag} {mg : PySem.Str → Option Value} {base : Heap} {a : Ad} (T : Tx K mg a) : FnOk P w K mg base CX0 5 a.f_law a.d_law ["_law_script"] (sp_law K a) := by
  refine T.F_law.ok sc_law (fun vs H Q E h => spP_len (n := 1) (fun r => rfl) h) (fun cdv A outer s H vs Q E hr h => ?_)
  refine ⟨_, (pss_cons (ps_set (i := 1) sc_law.nd rfl (by first | exact Or.inl rfl | exact Or.inr rfl) (pe_call (ok_rule T) (hr.mono (by decide)) rfl T.m_rule T.F_rule.kp T.b_rule .nil pass0 (pa_cons (pe_call (ok_cell T) (hr.mono (by decide)) rfl T.m_cell T.F_cell.kp T.b_cell .nil pass0 (pa_cons (pv 0) (pa_cons pe_int pa_nil))) pa_nil)))
      (pss_cons (ps_set (i := 2) sc_law.nd rfl (by first | exact Or.inl rfl | exact Or.inr rfl) (pe_op op_add pe_int (pe_op op_modN (pe_call (ok_cell T) (hr.mono (by decide)) rfl T.m_cell T.F_cell.kp T.b_cell .nil pass0 (pa_cons (pv 0) (pa_cons pe_int pa_nil))) pe_int)))
      (pss_cons (ps_set (i := 3) sc_law.nd rfl (by first | exact Or.inl rfl | exact Or.inr rfl) (pe_op op_sub (pe_bits (pv 1)) pe_int))
      (pss_cons (ps_set (i := 4) sc_law.nd rfl (by first | exact Or.inl rfl | exact Or.inr rfl) (pe_op op_shlW pe_int (pe_op op_mul (pv 3) (pv 2))))
      (pss_cons (ps_set (i := 5) sc_law.nd rfl (by first | exact Or.inl rfl | exact Or.inr rfl) (pe_op op_fdivW (pe_op op_add (pe_op op_mul (pv 3) (pv 2)) pe_int) pe_int))
      (pss_cons (ps_set (i := 6) sc_law.nd rfl (by first | exact Or.inl rfl | exact Or.inr rfl) (pe_op op_modN (pe_op op_mulW (pe_op op_modN (pe_call (ok_cell T) (hr.mono (by decide)) rfl T.m_cell T.F_cell.kp T.b_cell .nil pass0 (pa_cons (pv 0) (pa_cons pe_int pa_nil))) (pv 4)) (pe_op op_add (pe_op op_pow pe_int pe_int) pe_int)) (pv 4)))
      (pss_cons (ps_set (i := 7) sc_law.nd rfl (by first | exact Or.inl rfl | exact Or.inr rfl) (pe_call (ok_cell T) (hr.mono (by decide)) rfl T.m_cell T.F_cell.kp T.b_cell .nil pass0 (pa_cons (pv 0) (pa_cons pe_int pa_nil))))
      (pss_cons (ps_if (pt_cmpR op_eq (pe_op op_modN (pv 7) pe_int) pe_int (nomark _)) (pss_cons (ps_set (i := 6) sc_law.nd rfl (by first | exact Or.inl rfl | exact Or.inr rfl) pe_int)
      pss_nil) pss_nil)
      (pss_cons (ps_if (pt_cmpR op_eq (pe_op op_modN (pv 7) pe_int) pe_int (nomark _)) (pss_cons (ps_set (i := 6) sc_law.nd rfl (by first | exact Or.inl rfl | exact Or.inr rfl) (pe_op op_sub (pv 4) pe_int))
      pss_nil) pss_nil)
      (pss_cons (ps_set (i := 8) sc_law.nd rfl (by first | exact Or.inl rfl | exact Or.inr rfl) (WX.pe_makeS T.M_Blocks (ok_Blocks___init__ T) (hr.mono (by decide)) rfl T.m_Blocks T.b_Blocks___init__ .nil (fun σ => passAt takes0 σ) (pa_cons (WX.pe_makeS T.M_Field (ok_Field___init__ T) (hr.mono (by decide)) rfl T.m_Field T.b_Field___init__ .nil (fun σ => passAt takes0 σ) (pa_cons (pv 1) pa_nil)) (pa_cons (pv 2) pa_nil))))
      (pss_cons (ps_set (i := 9) sc_law.nd rfl (by first | exact Or.inl rfl | exact Or.inr rfl) (pe_call (ok_hex T) (hr.mono (by decide)) rfl T.m_hex T.F_hex.kp T.b_hex .nil pass0 (pa_cons (pv 6) (pa_cons (pv 5) pa_nil))))
      (pss_cons (ps_set (i := 10) sc_law.nd rfl (by first | exact Or.inl rfl | exact Or.inr rfl) (pe_call (ok_shown_block T) (hr.mono (by decide)) rfl T.m_shown_block T.F_shown_block.kp T.b_shown_block .nil pass0 (pa_cons (pv 8) (pa_cons (pv 6) pa_nil))))
      (pss_cons (ps_if (PW.pt (pw_or (pt_not (pt_val (pe_callB call_isi (by rfl) T.n_isinstance bb_isinstance (pa_cons (pv 10) (pa_cons (pe_ty T.n_str bb_str) pa_nil))))) (pw_or (pt_cmpR op_ne (pv 10) (pv 9) (nomark _)) (pw_or1 (pt_not (pt_val (pe_call (ok_read T) (hr.mono (by decide)) rfl T.m_read T.F_read.kp T.b_read .nil pass0 (pa_cons (pv 8) (pa_cons (pv 10) (pa_cons (pv 6) pa_nil)))))))))) (pss_cons (ps_ret pe_bl)
      pss_nil) pss_nil)
      (pss_cons (ps_set (i := 11) sc_law.nd rfl (by first | exact Or.inl rfl | exact Or.inr rfl) (pe_call (ok_spoiled T) (hr.mono (by decide)) rfl T.m_spoiled T.F_spoiled.kp T.b_spoiled .nil pass0 (pa_cons (pv 9) (pa_cons (pe_op op_modN (pe_op op_fdivW (pv 7) pe_int) pe_int) (pa_cons (pe_call (ok_cell T) (hr.mono (by decide)) rfl T.m_cell T.F_cell.kp T.b_cell .nil pass0 (pa_cons (pv 0) (pa_cons pe_int pa_nil))) (pa_cons (pe_call (ok_sign T) (hr.mono (by decide)) rfl T.m_sign T.F_sign.kp T.b_sign .nil pass0 (pa_cons (pe_call (ok_cell T) (hr.mono (by decide)) rfl T.m_cell T.F_cell.kp T.b_cell .nil pass0 (pa_cons (pv 0) (pa_cons pe_int pa_nil))) pa_nil)) pa_nil))))))
      (pss_cons (ps_ret (pe_call (ok_read T) (hr.mono (by decide)) rfl T.m_read T.F_read.kp T.b_read .nil pass0 (pa_cons (pv 8) (pa_cons (pv 11) (pa_cons (pe_call (ok_number T) (hr.mono (by decide)) rfl T.m_number T.F_number.kp T.b_number .nil pass0 (pa_cons (pv 11) (pa_cons (pv 5) (pa_cons (pv 4) pa_nil)))) pa_nil)))))
      pss_nil))))))))))))))), ?_⟩
  refine spP_body (L := exL a) (mb := (fun (r : (List Int)) => mb_law r)) (fun r => rfl) (fun r => by show 1 ≤ 12; decide) (by show 12 < 1000; decide) h (fun B0 hn script o_ hm hf => ?_)
  replace hn : B0.n = 12 := hn
  replace hm : mb_law script = some o_ := hm
  unfold mb_law at hm
  show G B0 _ [(0, .fz (tScr K) script)] _
  refine bindE hm ?_; clear hm; intro y h_y hm
  refine bindE hm ?_; clear hm; intro y1 h_y1 hm
  refine g_asg (τ := tInt) (by rw [hn]; decide) (Sm.ofS (so_call (y) h_y1 (sma_cons (Sm.ofS (so_call ((script, (0 : Int))) h_y (sma_cons (sm_var rfl) (sma_cons sm_int sma_nil))) frz_F) sma_nil)) frz_F) ?_
  refine bindE hm ?_; clear hm; intro y2 h_y2 hm
  refine letE hm ?_; clear hm; intro many e_many hm
  refine g_asg (τ := tInt) (by rw [hn]; decide) (sm_eq e_many (sm_op sm_int (sm_op (Sm.ofS (so_call ((script, (1 : Int))) h_y2 (sma_cons (sm_var rfl) (sma_cons sm_int sma_nil))) frz_F) sm_int (ov_modP (by decide))) ov_add)) ?_
  refine letE hm ?_; clear hm; intro width e_width hm
  refine g_asg (τ := tInt) (by rw [hn]; decide) (sm_eq e_width (sm_op (sm_bits (sm_var rfl)) sm_int ov_sub)) ?_
  refine guardE hm ?_; clear hm; intro g_ hm
  refine guardE hm ?_; clear hm; intro g_1 hm
  refine letE hm ?_; clear hm; intro limit e_limit hm
  refine g_asg (τ := tInt) (by rw [hn]; decide) (sm_eq e_limit (sm_op sm_int (sm_op (sm_var rfl) (sm_var rfl) (ov_mulG g_)) (ov_shlG g_1))) ?_
  refine guardE hm ?_; clear hm; intro g_2 hm
  refine letE hm ?_; clear hm; intro figures e_figures hm
  refine g_asg (τ := tInt) (by rw [hn]; decide) (sm_eq e_figures (sm_op (sm_op (sm_op (sm_var rfl) (sm_var rfl) (ov_mulG g_2)) sm_int ov_add) sm_int (ov_divG (by decide)))) ?_
  refine bindE hm ?_; clear hm; intro y3 h_y3 hm
  refine guardE hm ?_; clear hm; intro g_3 hm
  refine guardE hm ?_; clear hm; intro g_4 hm
  refine guardE hm ?_; clear hm; intro g_5 hm
  refine letE hm ?_; clear hm; intro block e_block hm
  refine g_asg (τ := tInt) (by rw [hn]; decide) (sm_eq e_block (sm_op (sm_op (sm_op (Sm.ofS (so_call ((script, (2 : Int))) h_y3 (sma_cons (sm_var rfl) (sma_cons sm_int sma_nil))) frz_F) (sm_var rfl) (ov_modP g_3)) (sm_eq (show ((1000000000000000000000000000000000000000 : Int) + (7 : Int)) = (1000000000000000000000000000000000000007 : Int) by decide +kernel) (sm_op (sm_eq (show ((10 : Int) ^ (39 : Int).toNat) = (1000000000000000000000000000000000000000 : Int) by decide +kernel) (sm_op sm_int sm_int (ov_powG (by decide)))) sm_int ov_add)) (ov_mulWG g_4)) (sm_var rfl) (ov_modP g_5))) ?_
  refine bindE hm ?_; clear hm; intro y4 h_y4 hm
  refine g_asg (τ := tInt) (by rw [hn]; decide) (Sm.ofS (so_call ((script, (3 : Int))) h_y4 (sma_cons (sm_var rfl) (sma_cons sm_int sma_nil))) frz_F) ?_
  refine g_norm [(0, .fz (tScr K) script), (1, .fz tInt y1), (2, .fz tInt many), (3, .fz tInt width), (4, .fz tInt limit), (5, .fz tInt figures), (6, .fz tInt block), (7, .fz tInt y4)] ?_ ⟨rfl, rfl, rfl, rfl, rfl, rfl, rfl, rfl, trivial⟩
  refine g_join (S := Int) (fun (s : Int) => [(0, .fz (tScr K) script), (1, .fz tInt y1), (2, .fz tInt many), (3, .fz tInt width), (4, .fz tInt limit), (5, .fz tInt figures), (6, .fz tInt s), (7, .fz tInt y4)]) hm hf (smt_tt (sm_op (sm_op (sm_var rfl) sm_int (ov_modP (by decide))) sm_int ov_eqI)) (fun hc o_ hm hf => ?_) (fun hc o_ hm hf => ?_) (fun s_ hm => ?_)
  ·
    refine g_asg (τ := tInt) (by rw [hn]; decide) sm_int ?_
    cases hm
    exact g_nx hf ⟨rfl, rfl, rfl, rfl, rfl, rfl, rfl, rfl, trivial⟩
  ·
    cases hm
    exact g_nx hf ⟨rfl, rfl, rfl, rfl, rfl, rfl, rfl, rfl, trivial⟩
  ·
    unfold mK_law_0 at hm
    refine g_join (S := Int) (fun (s : Int) => [(0, .fz (tScr K) script), (1, .fz tInt y1), (2, .fz tInt many), (3, .fz tInt width), (4, .fz tInt limit), (5, .fz tInt figures), (6, .fz tInt s), (7, .fz tInt y4)]) hm hf (smt_tt (sm_op (sm_op (sm_var rfl) sm_int (ov_modP (by decide))) sm_int ov_eqI)) (fun hc o_ hm hf => ?_) (fun hc o_ hm hf => ?_) (fun s_1 hm => ?_)
    ·
      refine letE hm ?_; clear hm; intro block1 e_block1 hm
      refine g_asg (τ := tInt) (by rw [hn]; decide) (sm_eq e_block1 (sm_op (sm_var rfl) sm_int ov_sub)) ?_
      cases hm
      exact g_nx hf ⟨rfl, rfl, rfl, rfl, rfl, rfl, rfl, rfl, trivial⟩
    ·
      cases hm
      exact g_nx hf ⟨rfl, rfl, rfl, rfl, rfl, rfl, rfl, rfl, trivial⟩
    ·
      unfold mK_law_1 at hm
      refine bindE hm ?_; clear hm; intro y5 h_y5 hm
      refine bindE hm ?_; clear hm; intro y6 h_y6 hm
      refine g_asg (τ := (tBlocks a)) (by rw [hn]; decide) (Sm.ofS (so_ofX (W := _) (sox_make ((y5, many)) (okE h_y6) (sma_cons (Sm.ofS (so_ofX (W := _) (sox_make (y1) (okE h_y5) (sma_cons (sm_var rfl) sma_nil)) rfl) (frz_Field (a := a))) (sma_cons (sm_var rfl) sma_nil))) rfl) (frz_Blocks (a := a))) ?_
      refine bindE hm ?_; clear hm; intro y7 h_y7 hm
      refine g_asg (τ := tStr) (by rw [hn]; decide) (Sm.ofS (so_call ((s_1, figures)) h_y7 (sma_cons (sm_var rfl) (sma_cons (sm_var rfl) sma_nil))) frz_F) ?_
      refine bindE hm ?_; clear hm; intro y8 h_y8 hm
      refine g_asg (τ := tStr) (by rw [hn]; decide) (Sm.ofS (so_call ((y6, s_1)) h_y8 (sma_cons (sm_var rfl) (sma_cons (sm_var rfl) sma_nil))) frz_F) ?_
      refine bindE hm ?_; clear hm; intro b1 h_b1 hm
      refine g_if (smt_orM h_b1 (smt_not (smt_b (sm_isi (b := true) (sm_var rfl) ti_str (by decide +kernel)))) (fun hb c_ hm => (bindE hm fun b h_b hm => (smt_eq (Option.some.inj hm) (smt_orM h_b (smt_tt (sm_op (sm_var rfl) (sm_var rfl) ov_neS)) (fun hb c_ hm => (bindE hm fun y9 h_y9 hm => (smt_eq (Option.some.inj hm) (smt_not (smt_b (Sm.ofS (so_call ((y6, y8, (some s_1))) h_y9 (sma_cons (sm_var rfl) (sma_cons (sm_var rfl) (sma_cons (sm_some (sm_var rfl) nn_int) sma_nil)))) frz_F))))))))))) (fun hc => ?_) (fun hc => ?_)
      ·
        replace hm := ifT hc hm
        refine g_assoc ?_
        cases hm
        exact g_ret (Le.refl B0) hf trivial (So.of sm_bl)
      ·
        replace hm := ifF hc hm
        refine g_next ?_
        refine bindE hm ?_; clear hm; intro y10 h_y10 hm
        refine bindE hm ?_; clear hm; intro y11 h_y11 hm
        refine bindE hm ?_; clear hm; intro y12 h_y12 hm
        refine bindE hm ?_; clear hm; intro y13 h_y13 hm
        refine g_asg (τ := tStr) (by rw [hn]; decide) (Sm.ofS (so_call ((y7, ((y4 / (5 : Int)) % (8 : Int)), y10, y12)) h_y13 (sma_cons (sm_var rfl) (sma_cons (sm_op (sm_op (sm_var rfl) sm_int (ov_divG (by decide))) sm_int (ov_modP (by decide))) (sma_cons (Sm.ofS (so_call ((script, (4 : Int))) h_y10 (sma_cons (sm_var rfl) (sma_cons sm_int sma_nil))) frz_F) (sma_cons (Sm.ofS (so_call (y11) h_y12 (sma_cons (Sm.ofS (so_call ((script, (5 : Int))) h_y11 (sma_cons (sm_var rfl) (sma_cons sm_int sma_nil))) frz_F) sma_nil)) frz_F) sma_nil))))) frz_F) ?_
        refine bindE hm ?_; clear hm; intro y14 h_y14 hm
        refine bindE hm ?_; clear hm; intro y15 h_y15 hm
        cases hm
        exact g_ret (Le.refl B0) hf trivial (So.of (Sm.ofS (so_call ((y6, y13, y14)) h_y15 (sma_cons (sm_var rfl) (sma_cons (sm_var rfl) (sma_cons (Sm.ofS (so_call ((y13, figures, limit)) h_y14 (sma_cons (sm_var rfl) (sma_cons (sm_var rfl) (sma_cons (sm_var rfl) sma_nil)))) frz_F) sma_nil)))) frz_F))
theorem all_mk {P : Program} {w : World} {K : PySem.W.Frag} {h : Heap} {mg : PySem.Str → Option Value} {fa : Addr} (X : K.In h) (G : h.Ns mainGlobals mg) (hfa : mg "law" = some (.ref fa))
    {f_doubled : Addr} {od_doubled an_doubled : Option Addr} {sl_doubled : Array (Option Value)} {oc_doubled kV_doubled dc_doubled pm_doubled cd_doubled ct_doubled : Value}
    {f_walk_of : Addr} {od_walk_of an_walk_of : Option Addr} {sl_walk_of : Array (Option Value)} {oc_walk_of kV_walk_of dc_walk_of pm_walk_of cd_walk_of ct_walk_of : Value}
    {f_Field___init__ : Addr} {od_Field___init__ an_Field___init__ : Option Addr} {sl_Field___init__ : Array (Option Value)} {oc_Field___init__ kV_Field___init__ dc_Field___init__ pm_Field___init__ cd_Field___init__ ct_Field___init__ : Value}
    {f_Blocks___init__ : Addr} {od_Blocks___init__ an_Blocks___init__ : Option Addr} {sl_Blocks___init__ : Array (Option Value)} {oc_Blocks___init__ kV_Blocks___init__ dc_Blocks___init__ pm_Blocks___init__ cd_Blocks___init__ ct_Blocks___init__ : Value}
    {f_Blocks_good : Addr} {od_Blocks_good an_Blocks_good : Option Addr} {sl_Blocks_good : Array (Option Value)} {oc_Blocks_good kV_Blocks_good dc_Blocks_good pm_Blocks_good cd_Blocks_good ct_Blocks_good : Value}
    {f_figures_of : Addr} {od_figures_of an_figures_of : Option Addr} {sl_figures_of : Array (Option Value)} {oc_figures_of kV_figures_of dc_figures_of pm_figures_of cd_figures_of ct_figures_of : Value}
    {f_shown_block : Addr} {od_shown_block an_shown_block : Option Addr} {sl_shown_block : Array (Option Value)} {oc_shown_block kV_shown_block dc_shown_block pm_shown_block cd_shown_block ct_shown_block : Value}
    {f_read_block : Addr} {od_read_block an_read_block : Option Addr} {sl_read_block : Array (Option Value)} {oc_read_block kV_read_block dc_read_block pm_read_block cd_read_block ct_read_block : Value}
    {f_cell : Addr} {od_cell an_cell : Option Addr} {sl_cell : Array (Option Value)} {oc_cell kV_cell dc_cell pm_cell cd_cell ct_cell : Value}
    {f_rule : Addr} {od_rule an_rule : Option Addr} {sl_rule : Array (Option Value)} {oc_rule kV_rule dc_rule pm_rule cd_rule ct_rule : Value}
    {f_hex : Addr} {od_hex an_hex : Option Addr} {sl_hex : Array (Option Value)} {oc_hex kV_hex dc_hex pm_hex cd_hex ct_hex : Value}
    {f_sign : Addr} {od_sign an_sign : Option Addr} {sl_sign : Array (Option Value)} {oc_sign kV_sign dc_sign pm_sign cd_sign ct_sign : Value}
    {f_number : Addr} {od_number an_number : Option Addr} {sl_number : Array (Option Value)} {oc_number kV_number dc_number pm_number cd_number ct_number : Value}
    {f_spoiled : Addr} {od_spoiled an_spoiled : Option Addr} {sl_spoiled : Array (Option Value)} {oc_spoiled kV_spoiled dc_spoiled pm_spoiled cd_spoiled ct_spoiled : Value}
    {f_read : Addr} {od_read an_read : Option Addr} {sl_read : Array (Option Value)} {oc_read kV_read dc_read pm_read cd_read ct_read : Value}
    {f_law : Addr} {od_law an_law : Option Addr} {sl_law : Array (Option Value)} {oc_law kV_law dc_law pm_law cd_law ct_law : Value}
    {x_PlankError : Addr}
    {x_NoField : Addr}
    {x_NoShape : Addr}
    {x_NoBlock : Addr}
    {x_NoLine : Addr}
    {f_NoField___init__ : Addr} {od_NoField___init__ an_NoField___init__ : Option Addr} {sl_NoField___init__ : Array (Option Value)} {oc_NoField___init__ kV_NoField___init__ dc_NoField___init__ pm_NoField___init__ cd_NoField___init__ ct_NoField___init__ : Value}
    {nm_NoField q_NoField : PySem.Str} {N_NoField : Addr} {bs_NoField : List Value} {sn_NoField : List PySem.Str} {sub_NoField : List Value} {ab_NoField : Bool} {col_NoField : Option Bool} {dd_NoField : Option Addr} {m0_NoField m1_NoField m2_NoField m3_NoField m5_NoField : Option Value}
    {c_Field : Addr}
    {c_Blocks : Addr}
    {tk_FIGURES : Tok}
    {tk_MOST_SYMBOLS : Tok}
    {tk_LEAST_RULE : Tok}
    {tk_END_OF_RULES : Tok}
    (m_PlankError : PySem.W.nsIn K mainGlobals "PlankError" = some (some (.ref x_PlankError)))
    (m_NoField : PySem.W.nsIn K mainGlobals "NoField" = some (some (.ref x_NoField)))
    (m_NoShape : PySem.W.nsIn K mainGlobals "NoShape" = some (some (.ref x_NoShape)))
    (m_NoBlock : PySem.W.nsIn K mainGlobals "NoBlock" = some (some (.ref x_NoBlock)))
    (m_NoLine : PySem.W.nsIn K mainGlobals "NoLine" = some (some (.ref x_NoLine)))
    (C_Field : PySem.W.nsIn K mainGlobals "Field" = some (some (.ref c_Field)))
    (C_Blocks : PySem.W.nsIn K mainGlobals "Blocks" = some (some (.ref c_Blocks)))
    (a_doubled : PySem.W.nsIn K mainGlobals "doubled" = some (some (.ref f_doubled)))
    (l_doubled : K.lookup f_doubled = some ⟨oc_doubled, od_doubled, .func (PySem.W.fnOf "doubled" "doubled" (defArgs s_doubled) (defBody s_doubled) (defScope s_doubled) .none kV_doubled dc_doubled pm_doubled an_doubled cd_doubled ct_doubled), sl_doubled⟩)
    (c_doubled : PySem.W.codeIn K cd_doubled "doubled" = true)
    (k_doubled : PySem.W.keepIn K (.ref f_doubled) = true)
    (a_walk_of : PySem.W.nsIn K mainGlobals "walk_of" = some (some (.ref f_walk_of)))
    (l_walk_of : K.lookup f_walk_of = some ⟨oc_walk_of, od_walk_of, .func (PySem.W.fnOf "walk_of" "walk_of" (defArgs s_walk_of) (defBody s_walk_of) (defScope s_walk_of) .none kV_walk_of dc_walk_of pm_walk_of an_walk_of cd_walk_of ct_walk_of), sl_walk_of⟩)
    (c_walk_of : PySem.W.codeIn K cd_walk_of "walk_of" = true)
    (k_walk_of : PySem.W.keepIn K (.ref f_walk_of) = true)
    (a_Field___init__ : PySem.W.findIn K (.ref c_Field) "__init__" = some (some (.ref f_Field___init__)))
    (i_Field___init__ : PySem.W.isFn K (.ref f_Field___init__) = true)
    (l_Field___init__ : K.lookup f_Field___init__ = some ⟨oc_Field___init__, od_Field___init__, .func (PySem.W.fnOf "__init__" "Field.__init__" (defArgs s_Field___init__) (defBody s_Field___init__) (defScope s_Field___init__) .none kV_Field___init__ dc_Field___init__ pm_Field___init__ an_Field___init__ cd_Field___init__ ct_Field___init__), sl_Field___init__⟩)
    (c_Field___init__ : PySem.W.codeIn K cd_Field___init__ "Field.__init__" = true)
    (k_Field___init__ : PySem.W.keepIn K (.ref f_Field___init__) = true)
    (a_Blocks___init__ : PySem.W.findIn K (.ref c_Blocks) "__init__" = some (some (.ref f_Blocks___init__)))
    (i_Blocks___init__ : PySem.W.isFn K (.ref f_Blocks___init__) = true)
    (l_Blocks___init__ : K.lookup f_Blocks___init__ = some ⟨oc_Blocks___init__, od_Blocks___init__, .func (PySem.W.fnOf "__init__" "Blocks.__init__" (defArgs s_Blocks___init__) (defBody s_Blocks___init__) (defScope s_Blocks___init__) .none kV_Blocks___init__ dc_Blocks___init__ pm_Blocks___init__ an_Blocks___init__ cd_Blocks___init__ ct_Blocks___init__), sl_Blocks___init__⟩)
    (c_Blocks___init__ : PySem.W.codeIn K cd_Blocks___init__ "Blocks.__init__" = true)
    (k_Blocks___init__ : PySem.W.keepIn K (.ref f_Blocks___init__) = true)
    (a_Blocks_good : PySem.W.findIn K (.ref c_Blocks) "good" = some (some (.ref f_Blocks_good)))
    (i_Blocks_good : PySem.W.isFn K (.ref f_Blocks_good) = true)
    (l_Blocks_good : K.lookup f_Blocks_good = some ⟨oc_Blocks_good, od_Blocks_good, .func (PySem.W.fnOf "good" "Blocks.good" (defArgs s_Blocks_good) (defBody s_Blocks_good) (defScope s_Blocks_good) .none kV_Blocks_good dc_Blocks_good pm_Blocks_good an_Blocks_good cd_Blocks_good ct_Blocks_good), sl_Blocks_good⟩)
    (c_Blocks_good : PySem.W.codeIn K cd_Blocks_good "Blocks.good" = true)
    (k_Blocks_good : PySem.W.keepIn K (.ref f_Blocks_good) = true)
    (a_figures_of : PySem.W.nsIn K mainGlobals "figures_of" = some (some (.ref f_figures_of)))
    (l_figures_of : K.lookup f_figures_of = some ⟨oc_figures_of, od_figures_of, .func (PySem.W.fnOf "figures_of" "figures_of" (defArgs s_figures_of) (defBody s_figures_of) (defScope s_figures_of) .none kV_figures_of dc_figures_of pm_figures_of an_figures_of cd_figures_of ct_figures_of), sl_figures_of⟩)
    (c_figures_of : PySem.W.codeIn K cd_figures_of "figures_of" = true)
    (k_figures_of : PySem.W.keepIn K (.ref f_figures_of) = true)
    (a_shown_block : PySem.W.nsIn K mainGlobals "shown_block" = some (some (.ref f_shown_block)))
    (l_shown_block : K.lookup f_shown_block = some ⟨oc_shown_block, od_shown_block, .func (PySem.W.fnOf "shown_block" "shown_block" (defArgs s_shown_block) (defBody s_shown_block) (defScope s_shown_block) .none kV_shown_block dc_shown_block pm_shown_block an_shown_block cd_shown_block ct_shown_block), sl_shown_block⟩)
    (c_shown_block : PySem.W.codeIn K cd_shown_block "shown_block" = true)
    (k_shown_block : PySem.W.keepIn K (.ref f_shown_block) = true)
    (a_read_block : PySem.W.nsIn K mainGlobals "read_block" = some (some (.ref f_read_block)))
    (l_read_block : K.lookup f_read_block = some ⟨oc_read_block, od_read_block, .func (PySem.W.fnOf "read_block" "read_block" (defArgs s_read_block) (defBody s_read_block) (defScope s_read_block) .none kV_read_block dc_read_block pm_read_block an_read_block cd_read_block ct_read_block), sl_read_block⟩)
    (c_read_block : PySem.W.codeIn K cd_read_block "read_block" = true)
    (k_read_block : PySem.W.keepIn K (.ref f_read_block) = true)
    (a_cell : PySem.W.nsIn K mainGlobals "_law_cell" = some (some (.ref f_cell)))
    (l_cell : K.lookup f_cell = some ⟨oc_cell, od_cell, .func (PySem.W.fnOf "_law_cell" "_law_cell" (defArgs s_cell) (defBody s_cell) (defScope s_cell) .none kV_cell dc_cell pm_cell an_cell cd_cell ct_cell), sl_cell⟩)
    (c_cell : PySem.W.codeIn K cd_cell "_law_cell" = true)
    (k_cell : PySem.W.keepIn K (.ref f_cell) = true)
    (a_rule : PySem.W.nsIn K mainGlobals "_law_rule" = some (some (.ref f_rule)))
    (l_rule : K.lookup f_rule = some ⟨oc_rule, od_rule, .func (PySem.W.fnOf "_law_rule" "_law_rule" (defArgs s_rule) (defBody s_rule) (defScope s_rule) .none kV_rule dc_rule pm_rule an_rule cd_rule ct_rule), sl_rule⟩)
    (c_rule : PySem.W.codeIn K cd_rule "_law_rule" = true)
    (k_rule : PySem.W.keepIn K (.ref f_rule) = true)
    (a_hex : PySem.W.nsIn K mainGlobals "_law_hex" = some (some (.ref f_hex)))
    (l_hex : K.lookup f_hex = some ⟨oc_hex, od_hex, .func (PySem.W.fnOf "_law_hex" "_law_hex" (defArgs s_hex) (defBody s_hex) (defScope s_hex) .none kV_hex dc_hex pm_hex an_hex cd_hex ct_hex), sl_hex⟩)
    (c_hex : PySem.W.codeIn K cd_hex "_law_hex" = true)
    (k_hex : PySem.W.keepIn K (.ref f_hex) = true)
    (a_sign : PySem.W.nsIn K mainGlobals "_law_sign" = some (some (.ref f_sign)))
    (l_sign : K.lookup f_sign = some ⟨oc_sign, od_sign, .func (PySem.W.fnOf "_law_sign" "_law_sign" (defArgs s_sign) (defBody s_sign) (defScope s_sign) .none kV_sign dc_sign pm_sign an_sign cd_sign ct_sign), sl_sign⟩)
    (c_sign : PySem.W.codeIn K cd_sign "_law_sign" = true)
    (k_sign : PySem.W.keepIn K (.ref f_sign) = true)
    (a_number : PySem.W.nsIn K mainGlobals "_law_number" = some (some (.ref f_number)))
    (l_number : K.lookup f_number = some ⟨oc_number, od_number, .func (PySem.W.fnOf "_law_number" "_law_number" (defArgs s_number) (defBody s_number) (defScope s_number) .none kV_number dc_number pm_number an_number cd_number ct_number), sl_number⟩)
    (c_number : PySem.W.codeIn K cd_number "_law_number" = true)
    (k_number : PySem.W.keepIn K (.ref f_number) = true)
    (a_spoiled : PySem.W.nsIn K mainGlobals "_law_spoiled" = some (some (.ref f_spoiled)))
    (l_spoiled : K.lookup f_spoiled = some ⟨oc_spoiled, od_spoiled, .func (PySem.W.fnOf "_law_spoiled" "_law_spoiled" (defArgs s_spoiled) (defBody s_spoiled) (defScope s_spoiled) .none kV_spoiled dc_spoiled pm_spoiled an_spoiled cd_spoiled ct_spoiled), sl_spoiled⟩)
    (c_spoiled : PySem.W.codeIn K cd_spoiled "_law_spoiled" = true)
    (k_spoiled : PySem.W.keepIn K (.ref f_spoiled) = true)
    (a_read : PySem.W.nsIn K mainGlobals "_law_read" = some (some (.ref f_read)))
    (l_read : K.lookup f_read = some ⟨oc_read, od_read, .func (PySem.W.fnOf "_law_read" "_law_read" (defArgs s_read) (defBody s_read) (defScope s_read) .none kV_read dc_read pm_read an_read cd_read ct_read), sl_read⟩)
    (c_read : PySem.W.codeIn K cd_read "_law_read" = true)
    (k_read : PySem.W.keepIn K (.ref f_read) = true)
    (a_law : PySem.W.nsIn K mainGlobals "law" = some (some (.ref f_law)))
    (l_law : K.lookup f_law = some ⟨oc_law, od_law, .func (PySem.W.fnOf "law" "law" (defArgs s_law) (defBody s_law) (defScope s_law) .none kV_law dc_law pm_law an_law cd_law ct_law), sl_law⟩)
    (c_law : PySem.W.codeIn K cd_law "law" = true)
    (k_law : PySem.W.keepIn K (.ref f_law) = true)
    (iC_NoField : PySem.W.findIn K (.ref x_NoField) "__init__" = some (some (.ref f_NoField___init__)))
    (tI_NoField : PySem.W.typeIn K (.ref f_NoField___init__) = some (.type "function"))
    (l_NoField___init__ : K.lookup f_NoField___init__ = some ⟨oc_NoField___init__, od_NoField___init__, .func (PySem.W.fnOf "__init__" "NoField.__init__" (defArgs s_NoField___init__) (defBody s_NoField___init__) (defScope s_NoField___init__) .none kV_NoField___init__ dc_NoField___init__ pm_NoField___init__ an_NoField___init__ cd_NoField___init__ ct_NoField___init__), sl_NoField___init__⟩)
    (c_NoField___init__ : PySem.W.codeIn K cd_NoField___init__ "NoField.__init__" = true)
    (k_NoField___init__ : PySem.W.keepIn K (.ref f_NoField___init__) = true)
    (cls_NoField : K.lookup x_NoField = some (excClassObj nm_NoField q_NoField x_NoField N_NoField bs_NoField [.ref x_PlankError, .type "ValueError", .type "Exception", .type "BaseException", .type "object"] true sn_NoField sub_NoField ab_NoField col_NoField dd_NoField m0_NoField m1_NoField m2_NoField m3_NoField m5_NoField "ValueError.__new__"))
    (sa_NoField : PySem.W.findIn K (.ref x_NoField) "__setattr__" = some (some (.builtin "object.__setattr__")))
    (kO_NoField : PySem.W.keepIn K (.ref x_NoField) = true)
    (xs1 : PySem.W.specialIn K (.builtin "object.__class__") "__get__" = some (some (.builtin "getset_descriptor.__get__")))
    (xs2 : PySem.W.takesIn K (.builtin "object.__class__") = some true)
    (ba_PlankError : PySem.W.readsIn K x_PlankError (.type "type") = true)
    (bb_PlankError : PySem.W.specialIn K (.ref x_PlankError) "__getattribute__" = some (some (.builtin "type.__getattribute__")))
    (bc_PlankError : PySem.W.findCls K (.ref x_PlankError) (.type "type") "__init__" = some (.val (.builtin "ValueError.__init__")))
    (xa_NoBlock : PySem.W.isClsIn K x_NoBlock = true)
    (xb_NoBlock : PySem.W.findIn K (.ref x_NoBlock) "__getattribute__" = some (some (.builtin "BaseException.__getattribute__")))
    (xc_NoBlock : PySem.W.findIn K (.ref x_NoBlock) "__getattr__" = some none)
    (xd_NoBlock : PySem.W.subIn K (.ref x_NoBlock) (.type "BaseException") = some true)
    (xe_NoBlock : PySem.W.hasDictIn K x_NoBlock = true)
    (xf_NoBlock : PySem.W.findIn K (.ref x_NoBlock) "__class__" = some (some (.builtin "object.__class__")))
    (xg_NoBlock : PySem.W.mroIn K x_NoBlock (.type "object") = some true)
    (xh_NoBlock : PySem.W.typeIn K (.ref x_NoBlock) = some (.type "type"))
    (xa_NoField : PySem.W.isClsIn K x_NoField = true)
    (xb_NoField : PySem.W.findIn K (.ref x_NoField) "__getattribute__" = some (some (.builtin "BaseException.__getattribute__")))
    (xc_NoField : PySem.W.findIn K (.ref x_NoField) "__getattr__" = some none)
    (xd_NoField : PySem.W.subIn K (.ref x_NoField) (.type "BaseException") = some true)
    (xe_NoField : PySem.W.hasDictIn K x_NoField = true)
    (xf_NoField : PySem.W.findIn K (.ref x_NoField) "__class__" = some (some (.builtin "object.__class__")))
    (xg_NoField : PySem.W.mroIn K x_NoField (.type "object") = some true)
    (xh_NoField : PySem.W.typeIn K (.ref x_NoField) = some (.type "type"))
    (xa_NoLine : PySem.W.isClsIn K x_NoLine = true)
    (xb_NoLine : PySem.W.findIn K (.ref x_NoLine) "__getattribute__" = some (some (.builtin "BaseException.__getattribute__")))
    (xc_NoLine : PySem.W.findIn K (.ref x_NoLine) "__getattr__" = some none)
    (xd_NoLine : PySem.W.subIn K (.ref x_NoLine) (.type "BaseException") = some true)
    (xe_NoLine : PySem.W.hasDictIn K x_NoLine = true)
    (xf_NoLine : PySem.W.findIn K (.ref x_NoLine) "__class__" = some (some (.builtin "object.__class__")))
    (xg_NoLine : PySem.W.mroIn K x_NoLine (.type "object") = some true)
    (xh_NoLine : PySem.W.typeIn K (.ref x_NoLine) = some (.type "type"))
    (xa_NoShape : PySem.W.isClsIn K x_NoShape = true)
    (xb_NoShape : PySem.W.findIn K (.ref x_NoShape) "__getattribute__" = some (some (.builtin "BaseException.__getattribute__")))
    (xc_NoShape : PySem.W.findIn K (.ref x_NoShape) "__getattr__" = some none)
    (xd_NoShape : PySem.W.subIn K (.ref x_NoShape) (.type "BaseException") = some true)
    (xe_NoShape : PySem.W.hasDictIn K x_NoShape = true)
    (xf_NoShape : PySem.W.findIn K (.ref x_NoShape) "__class__" = some (some (.builtin "object.__class__")))
    (xg_NoShape : PySem.W.mroIn K x_NoShape (.type "object") = some true)
    (xh_NoShape : PySem.W.typeIn K (.ref x_NoShape) = some (.type "type"))
    (xa_PlankError : PySem.W.isClsIn K x_PlankError = true)
    (xb_PlankError : PySem.W.findIn K (.ref x_PlankError) "__getattribute__" = some (some (.builtin "BaseException.__getattribute__")))
    (xc_PlankError : PySem.W.findIn K (.ref x_PlankError) "__getattr__" = some none)
    (xd_PlankError : PySem.W.subIn K (.ref x_PlankError) (.type "BaseException") = some true)
    (xe_PlankError : PySem.W.hasDictIn K x_PlankError = true)
    (xf_PlankError : PySem.W.findIn K (.ref x_PlankError) "__class__" = some (some (.builtin "object.__class__")))
    (xg_PlankError : PySem.W.mroIn K x_PlankError (.type "object") = some true)
    (xh_PlankError : PySem.W.typeIn K (.ref x_PlankError) = some (.type "type"))
    (na_NoField_after : PySem.W.findIn K (.ref x_NoField) "after" = some none)
    (na_NoField_rule : PySem.W.findIn K (.ref x_NoField) "rule" = some none)
    (p_NoBlock_NoBlock : PySem.W.subIn K (.ref x_NoBlock) (.ref x_NoBlock) = some true)
    (p_NoBlock_NoLine : PySem.W.subIn K (.ref x_NoBlock) (.ref x_NoLine) = some false)
    (p_NoBlock_PlankError : PySem.W.subIn K (.ref x_NoBlock) (.ref x_PlankError) = some true)
    (p_NoField_NoBlock : PySem.W.subIn K (.ref x_NoField) (.ref x_NoBlock) = some false)
    (p_NoField_NoLine : PySem.W.subIn K (.ref x_NoField) (.ref x_NoLine) = some false)
    (p_NoField_PlankError : PySem.W.subIn K (.ref x_NoField) (.ref x_PlankError) = some true)
    (p_NoLine_NoBlock : PySem.W.subIn K (.ref x_NoLine) (.ref x_NoBlock) = some false)
    (p_NoLine_NoLine : PySem.W.subIn K (.ref x_NoLine) (.ref x_NoLine) = some true)
    (p_NoLine_PlankError : PySem.W.subIn K (.ref x_NoLine) (.ref x_PlankError) = some true)
    (p_NoShape_NoBlock : PySem.W.subIn K (.ref x_NoShape) (.ref x_NoBlock) = some false)
    (p_NoShape_NoLine : PySem.W.subIn K (.ref x_NoShape) (.ref x_NoLine) = some false)
    (p_NoShape_PlankError : PySem.W.subIn K (.ref x_NoShape) (.ref x_PlankError) = some true)
    (p_PlankError_NoBlock : PySem.W.subIn K (.ref x_PlankError) (.ref x_NoBlock) = some false)
    (p_PlankError_NoLine : PySem.W.subIn K (.ref x_PlankError) (.ref x_NoLine) = some false)
    (p_PlankError_PlankError : PySem.W.subIn K (.ref x_PlankError) (.ref x_PlankError) = some true)
    (q_NoLine : PySem.W.excIn K x_NoLine [.type "ValueError", .type "Exception", .type "BaseException", .type "object"] "ValueError.__new__" = true)
    (kx_NoLine : PySem.W.keepIn K (.ref x_NoLine) = true)
    (q_NoShape : PySem.W.excIn K x_NoShape [.type "ValueError", .type "Exception", .type "BaseException", .type "object"] "ValueError.__new__" = true)
    (kx_NoShape : PySem.W.keepIn K (.ref x_NoShape) = true)
    (s_NoBlock : PySem.W.subIn K (.ref x_NoBlock) (.ref x_NoBlock) = some true)
    (s_NoField : PySem.W.subIn K (.ref x_NoField) (.ref x_NoField) = some true)
    (s_NoLine : PySem.W.subIn K (.ref x_NoLine) (.ref x_NoLine) = some true)
    (s_NoShape : PySem.W.subIn K (.ref x_NoShape) (.ref x_NoShape) = some true)
    (s_PlankError : PySem.W.subIn K (.ref x_PlankError) (.ref x_PlankError) = some true)
    (v_NoBlock : PySem.W.subIn K (.ref x_NoBlock) (.type "ValueError") = some true)
    (v_NoField : PySem.W.subIn K (.ref x_NoField) (.type "ValueError") = some true)
    (v_NoLine : PySem.W.subIn K (.ref x_NoLine) (.type "ValueError") = some true)
    (v_NoShape : PySem.W.subIn K (.ref x_NoShape) (.type "ValueError") = some true)
    (v_PlankError : PySem.W.subIn K (.ref x_PlankError) (.type "ValueError") = some true)
    (pg_Field : PySem.W.plainGet K c_Field Str.empty = true)
    (hd_Field : PySem.W.hasDictIn K c_Field = true)
    (po_Field : PySem.W.plainOver K c_Field = true)
    (sa_Field : PySem.W.findIn K (.ref c_Field) "__setattr__" = some (some (.builtin "object.__setattr__")))
    (mk_Field : PySem.W.makesIn K c_Field = true)
    (kc_Field : PySem.W.keepIn K (.ref c_Field) = true)
    (na_Field_rule : PySem.W.findIn K (.ref c_Field) "rule" = some none)
    (na_Field_width : PySem.W.findIn K (.ref c_Field) "width" = some none)
    (na_Field_last : PySem.W.findIn K (.ref c_Field) "last" = some none)
    (na_Field_powers : PySem.W.findIn K (.ref c_Field) "powers" = some none)
    (na_Field_logs : PySem.W.findIn K (.ref c_Field) "logs" = some none)
    (pg_Blocks : PySem.W.plainGet K c_Blocks Str.empty = true)
    (hd_Blocks : PySem.W.hasDictIn K c_Blocks = true)
    (po_Blocks : PySem.W.plainOver K c_Blocks = true)
    (sa_Blocks : PySem.W.findIn K (.ref c_Blocks) "__setattr__" = some (some (.builtin "object.__setattr__")))
    (mk_Blocks : PySem.W.makesIn K c_Blocks = true)
    (kc_Blocks : PySem.W.keepIn K (.ref c_Blocks) = true)
    (na_Blocks_field : PySem.W.findIn K (.ref c_Blocks) "field" = some none)
    (na_Blocks_many : PySem.W.findIn K (.ref c_Blocks) "many" = some none)
    (na_Blocks_limit : PySem.W.findIn K (.ref c_Blocks) "limit" = some none)
    (na_Blocks_ones : PySem.W.findIn K (.ref c_Blocks) "ones" = some none)
    (g_FIGURES : PySem.W.nsIn K mainGlobals "FIGURES" = some (some (.str "0123456789abcdef" tk_FIGURES)))
    (g_MOST_SYMBOLS : PySem.W.nsIn K mainGlobals "MOST_SYMBOLS" = some (some (.int 16 tk_MOST_SYMBOLS)))
    (g_LEAST_RULE : PySem.W.nsIn K mainGlobals "LEAST_RULE" = some (some (.int 16 tk_LEAST_RULE)))
    (g_END_OF_RULES : PySem.W.nsIn K mainGlobals "END_OF_RULES" = some (some (.int 512 tk_END_OF_RULES)))
    (z_ValueError : PySem.W.nsIn K mainGlobals "ValueError" = some none)
    (z_bool : PySem.W.nsIn K mainGlobals "bool" = some none)
    (z_divmod : PySem.W.nsIn K mainGlobals "divmod" = some none)
    (z_enumerate : PySem.W.nsIn K mainGlobals "enumerate" = some none)
    (z_int : PySem.W.nsIn K mainGlobals "int" = some none)
    (z_isinstance : PySem.W.nsIn K mainGlobals "isinstance" = some none)
    (z_len : PySem.W.nsIn K mainGlobals "len" = some none)
    (z_range : PySem.W.nsIn K mainGlobals "range" = some none)
    (z_str : PySem.W.nsIn K mainGlobals "str" = some none)
    : ∃ (a : Ad) (fd : FuncData), fa = a.f_law ∧ (∀ (s : Shared) (v : Value), BindsTo s fd ⟨[v], []⟩ [("_law_script", v)]) ∧ ∀ base : Heap, K.In base → base.Ns mainGlobals mg → FnOk P w K mg base CX0 5 fa fd ["_law_script"] (sp_law K a) := by
  have e := hfa.symm.trans (PySem.W.mg_of X G a_law)
  have e2 : fa = f_law := by cases e; rfl
  rw [e2]
  have F_doubled := fun_mk (st := s_doubled) l_doubled c_doubled k_doubled
  have F_walk_of := fun_mk (st := s_walk_of) l_walk_of c_walk_of k_walk_of
  have F_Field___init__ := fun_mk (st := s_Field___init__) l_Field___init__ c_Field___init__ k_Field___init__
  have F_Blocks___init__ := fun_mk (st := s_Blocks___init__) l_Blocks___init__ c_Blocks___init__ k_Blocks___init__
  have F_Blocks_good := fun_mk (st := s_Blocks_good) l_Blocks_good c_Blocks_good k_Blocks_good
  have F_figures_of := fun_mk (st := s_figures_of) l_figures_of c_figures_of k_figures_of
  have F_shown_block := fun_mk (st := s_shown_block) l_shown_block c_shown_block k_shown_block
  have F_read_block := fun_mk (st := s_read_block) l_read_block c_read_block k_read_block
  have F_cell := fun_mk (st := s_cell) l_cell c_cell k_cell
  have F_rule := fun_mk (st := s_rule) l_rule c_rule k_rule
  have F_hex := fun_mk (st := s_hex) l_hex c_hex k_hex
  have F_sign := fun_mk (st := s_sign) l_sign c_sign k_sign
  have F_number := fun_mk (st := s_number) l_number c_number k_number
  have F_spoiled := fun_mk (st := s_spoiled) l_spoiled c_spoiled k_spoiled
  have F_read := fun_mk (st := s_read) l_read c_read k_read
  have F_law := fun_mk (st := s_law) l_law c_law k_law
  have F_NoField___init__ := fun_mk (st := s_NoField___init__) l_NoField___init__ c_NoField___init__ k_NoField___init__
  have T : Tx K mg { f_NoField___init__ := f_NoField___init__, d_NoField___init__ := PySem.W.fnOf "__init__" "NoField.__init__" (defArgs s_NoField___init__) (defBody s_NoField___init__) (defScope s_NoField___init__) .none kV_NoField___init__ dc_NoField___init__ pm_NoField___init__ an_NoField___init__ cd_NoField___init__ ct_NoField___init__, x_PlankError := x_PlankError, x_NoField := x_NoField, x_NoShape := x_NoShape, x_NoBlock := x_NoBlock, x_NoLine := x_NoLine, f_doubled := f_doubled, d_doubled := PySem.W.fnOf "doubled" "doubled" (defArgs s_doubled) (defBody s_doubled) (defScope s_doubled) .none kV_doubled dc_doubled pm_doubled an_doubled cd_doubled ct_doubled, f_walk_of := f_walk_of, d_walk_of := PySem.W.fnOf "walk_of" "walk_of" (defArgs s_walk_of) (defBody s_walk_of) (defScope s_walk_of) .none kV_walk_of dc_walk_of pm_walk_of an_walk_of cd_walk_of ct_walk_of, f_Field___init__ := f_Field___init__, d_Field___init__ := PySem.W.fnOf "__init__" "Field.__init__" (defArgs s_Field___init__) (defBody s_Field___init__) (defScope s_Field___init__) .none kV_Field___init__ dc_Field___init__ pm_Field___init__ an_Field___init__ cd_Field___init__ ct_Field___init__, f_Blocks___init__ := f_Blocks___init__, d_Blocks___init__ := PySem.W.fnOf "__init__" "Blocks.__init__" (defArgs s_Blocks___init__) (defBody s_Blocks___init__) (defScope s_Blocks___init__) .none kV_Blocks___init__ dc_Blocks___init__ pm_Blocks___init__ an_Blocks___init__ cd_Blocks___init__ ct_Blocks___init__, f_Blocks_good := f_Blocks_good, d_Blocks_good := PySem.W.fnOf "good" "Blocks.good" (defArgs s_Blocks_good) (defBody s_Blocks_good) (defScope s_Blocks_good) .none kV_Blocks_good dc_Blocks_good pm_Blocks_good an_Blocks_good cd_Blocks_good ct_Blocks_good, f_figures_of := f_figures_of, d_figures_of := PySem.W.fnOf "figures_of" "figures_of" (defArgs s_figures_of) (defBody s_figures_of) (defScope s_figures_of) .none kV_figures_of dc_figures_of pm_figures_of an_figures_of cd_figures_of ct_figures_of, f_shown_block := f_shown_block, d_shown_block := PySem.W.fnOf "shown_block" "shown_block" (defArgs s_shown_block) (defBody s_shown_block) (defScope s_shown_block) .none kV_shown_block dc_shown_block pm_shown_block an_shown_block cd_shown_block ct_shown_block, f_read_block := f_read_block, d_read_block := PySem.W.fnOf "read_block" "read_block" (defArgs s_read_block) (defBody s_read_block) (defScope s_read_block) .none kV_read_block dc_read_block pm_read_block an_read_block cd_read_block ct_read_block, f_cell := f_cell, d_cell := PySem.W.fnOf "_law_cell" "_law_cell" (defArgs s_cell) (defBody s_cell) (defScope s_cell) .none kV_cell dc_cell pm_cell an_cell cd_cell ct_cell, f_rule := f_rule, d_rule := PySem.W.fnOf "_law_rule" "_law_rule" (defArgs s_rule) (defBody s_rule) (defScope s_rule) .none kV_rule dc_rule pm_rule an_rule cd_rule ct_rule, f_hex := f_hex, d_hex := PySem.W.fnOf "_law_hex" "_law_hex" (defArgs s_hex) (defBody s_hex) (defScope s_hex) .none kV_hex dc_hex pm_hex an_hex cd_hex ct_hex, f_sign := f_sign, d_sign := PySem.W.fnOf "_law_sign" "_law_sign" (defArgs s_sign) (defBody s_sign) (defScope s_sign) .none kV_sign dc_sign pm_sign an_sign cd_sign ct_sign, f_number := f_number, d_number := PySem.W.fnOf "_law_number" "_law_number" (defArgs s_number) (defBody s_number) (defScope s_number) .none kV_number dc_number pm_number an_number cd_number ct_number, f_spoiled := f_spoiled, d_spoiled := PySem.W.fnOf "_law_spoiled" "_law_spoiled" (defArgs s_spoiled) (defBody s_spoiled) (defScope s_spoiled) .none kV_spoiled dc_spoiled pm_spoiled an_spoiled cd_spoiled ct_spoiled, f_read := f_read, d_read := PySem.W.fnOf "_law_read" "_law_read" (defArgs s_read) (defBody s_read) (defScope s_read) .none kV_read dc_read pm_read an_read cd_read ct_read, f_law := f_law, d_law := PySem.W.fnOf "law" "law" (defArgs s_law) (defBody s_law) (defScope s_law) .none kV_law dc_law pm_law an_law cd_law ct_law, c_Field := c_Field, c_Blocks := c_Blocks } := {
    F_doubled := F_doubled
    b_doubled := F_doubled.binds (ps := ["one", "rule", "last"]) fun _ _ _ _ _ _ us hl => match us, hl with | [_, _, _], _ => rfl
    m_doubled := PySem.W.mg_of X G a_doubled
    F_walk_of := F_walk_of
    b_walk_of := F_walk_of.binds (ps := ["rule", "last"]) fun _ _ _ _ _ _ us hl => match us, hl with | [_, _], _ => rfl
    m_walk_of := PySem.W.mg_of X G a_walk_of
    F_Field___init__ := F_Field___init__
    b_Field___init__ := F_Field___init__.binds (ps := ["self", "rule"]) fun _ _ _ _ _ _ us hl => match us, hl with | [_, _], _ => rfl
    F_Blocks___init__ := F_Blocks___init__
    b_Blocks___init__ := F_Blocks___init__.binds (ps := ["self", "field", "many"]) fun _ _ _ _ _ _ us hl => match us, hl with | [_, _, _], _ => rfl
    F_Blocks_good := F_Blocks_good
    b_Blocks_good := F_Blocks_good.binds (ps := ["self", "block"]) fun _ _ _ _ _ _ us hl => match us, hl with | [_, _], _ => rfl
    e_Blocks_good := ⟨a_Blocks_good, i_Blocks_good, k_Blocks_good⟩
    F_figures_of := F_figures_of
    b_figures_of := F_figures_of.binds (ps := ["blocks"]) fun _ _ _ _ _ _ us hl => match us, hl with | [_], _ => rfl
    m_figures_of := PySem.W.mg_of X G a_figures_of
    F_shown_block := F_shown_block
    b_shown_block := F_shown_block.binds (ps := ["blocks", "block"]) fun _ _ _ _ _ _ us hl => match us, hl with | [_, _], _ => rfl
    m_shown_block := PySem.W.mg_of X G a_shown_block
    F_read_block := F_read_block
    b_read_block := F_read_block.binds (ps := ["blocks", "text"]) fun _ _ _ _ _ _ us hl => match us, hl with | [_, _], _ => rfl
    m_read_block := PySem.W.mg_of X G a_read_block
    F_cell := F_cell
    b_cell := F_cell.binds (ps := ["_law_script", "_law_k"]) fun _ _ _ _ _ _ us hl => match us, hl with | [_, _], _ => rfl
    m_cell := PySem.W.mg_of X G a_cell
    F_rule := F_rule
    b_rule := F_rule.binds (ps := ["_law_cell_here"]) fun _ _ _ _ _ _ us hl => match us, hl with | [_], _ => rfl
    m_rule := PySem.W.mg_of X G a_rule
    F_hex := F_hex
    b_hex := F_hex.binds (ps := ["_law_block", "_law_many"]) fun _ _ _ _ _ _ us hl => match us, hl with | [_, _], _ => rfl
    m_hex := PySem.W.mg_of X G a_hex
    F_sign := F_sign
    b_sign := F_sign.binds (ps := ["_law_cell_here"]) fun _ _ _ _ _ _ us hl => match us, hl with | [_], _ => rfl
    m_sign := PySem.W.mg_of X G a_sign
    F_number := F_number
    b_number := F_number.binds (ps := ["_law_line", "_law_many", "_law_limit"]) fun _ _ _ _ _ _ us hl => match us, hl with | [_, _, _], _ => rfl
    m_number := PySem.W.mg_of X G a_number
    F_spoiled := F_spoiled
    b_spoiled := F_spoiled.binds (ps := ["_law_line", "_law_way", "_law_cell_here", "_law_sign_here"]) fun _ _ _ _ _ _ us hl => match us, hl with | [_, _, _, _], _ => rfl
    m_spoiled := PySem.W.mg_of X G a_spoiled
    F_read := F_read
    b_read := F_read.binds (ps := ["_law_blocks", "_law_line", "_law_due"]) fun _ _ _ _ _ _ us hl => match us, hl with | [_, _, _], _ => rfl
    m_read := PySem.W.mg_of X G a_read
    F_law := F_law
    b_law := F_law.binds (ps := ["_law_script"]) fun _ _ _ _ _ _ us hl => match us, hl with | [_], _ => rfl
    m_law := PySem.W.mg_of X G a_law
    C_Field := ⟨pg_Field, hd_Field, po_Field, sa_Field⟩
    m_Field := PySem.W.mg_of X G C_Field
    M_Field := ⟨mk_Field, a_Field___init__, i_Field___init__, kc_Field⟩
    n_Field_rule := na_Field_rule
    n_Field_width := na_Field_width
    n_Field_last := na_Field_last
    n_Field_powers := na_Field_powers
    n_Field_logs := na_Field_logs
    C_Blocks := ⟨pg_Blocks, hd_Blocks, po_Blocks, sa_Blocks⟩
    m_Blocks := PySem.W.mg_of X G C_Blocks
    M_Blocks := ⟨mk_Blocks, a_Blocks___init__, i_Blocks___init__, kc_Blocks⟩
    n_Blocks_field := na_Blocks_field
    n_Blocks_many := na_Blocks_many
    n_Blocks_limit := na_Blocks_limit
    n_Blocks_ones := na_Blocks_ones
    m_PlankError := PySem.W.mg_of X G m_PlankError
    m_NoField := PySem.W.mg_of X G m_NoField
    m_NoShape := PySem.W.mg_of X G m_NoShape
    m_NoBlock := PySem.W.mg_of X G m_NoBlock
    m_NoLine := PySem.W.mg_of X G m_NoLine
    F_NoField___init__ := F_NoField___init__
    b_NoField___init__ := F_NoField___init__.binds (ps := ["self", "rule", "after"]) fun _ _ _ _ _ _ us hl => match us, hl with | [_, _, _], _ => rfl
    B_PlankError := ⟨ba_PlankError, bb_PlankError, bc_PlankError⟩
    O_NoField := ⟨⟨nm_NoField, q_NoField, N_NoField, bs_NoField, _, sn_NoField, sub_NoField, ab_NoField, col_NoField, dd_NoField, m0_NoField, m1_NoField, m2_NoField, m3_NoField, m5_NoField, cls_NoField, by rfl⟩, sa_NoField, xd_NoField, xh_NoField, kO_NoField⟩
    iC_NoField := iC_NoField
    tI_NoField := tI_NoField
    X_NoBlock := ⟨xa_NoBlock, xb_NoBlock, xc_NoBlock, xd_NoBlock, xe_NoBlock, xf_NoBlock, xs1, xs2, xg_NoBlock, xh_NoBlock⟩
    X_NoField := ⟨xa_NoField, xb_NoField, xc_NoField, xd_NoField, xe_NoField, xf_NoField, xs1, xs2, xg_NoField, xh_NoField⟩
    X_NoLine := ⟨xa_NoLine, xb_NoLine, xc_NoLine, xd_NoLine, xe_NoLine, xf_NoLine, xs1, xs2, xg_NoLine, xh_NoLine⟩
    X_NoShape := ⟨xa_NoShape, xb_NoShape, xc_NoShape, xd_NoShape, xe_NoShape, xf_NoShape, xs1, xs2, xg_NoShape, xh_NoShape⟩
    X_PlankError := ⟨xa_PlankError, xb_PlankError, xc_PlankError, xd_PlankError, xe_PlankError, xf_PlankError, xs1, xs2, xg_PlankError, xh_PlankError⟩
    na_NoField_after := na_NoField_after
    na_NoField_rule := na_NoField_rule
    p_NoBlock_NoBlock := p_NoBlock_NoBlock
    p_NoBlock_NoLine := p_NoBlock_NoLine
    p_NoBlock_PlankError := p_NoBlock_PlankError
    p_NoField_NoBlock := p_NoField_NoBlock
    p_NoField_NoLine := p_NoField_NoLine
    p_NoField_PlankError := p_NoField_PlankError
    p_NoLine_NoBlock := p_NoLine_NoBlock
    p_NoLine_NoLine := p_NoLine_NoLine
    p_NoLine_PlankError := p_NoLine_PlankError
    p_NoShape_NoBlock := p_NoShape_NoBlock
    p_NoShape_NoLine := p_NoShape_NoLine
    p_NoShape_PlankError := p_NoShape_PlankError
    p_PlankError_NoBlock := p_PlankError_NoBlock
    p_PlankError_NoLine := p_PlankError_NoLine
    p_PlankError_PlankError := p_PlankError_PlankError
    q_NoLine := q_NoLine
    kx_NoLine := kx_NoLine
    q_NoShape := q_NoShape
    kx_NoShape := kx_NoShape
    s_NoBlock := s_NoBlock
    s_NoField := s_NoField
    s_NoLine := s_NoLine
    s_NoShape := s_NoShape
    s_PlankError := s_PlankError
    t_NoBlock_PlankError := exm_of xa_PlankError xd_PlankError xh_PlankError p_NoBlock_PlankError
    t_NoField_PlankError := exm_of xa_PlankError xd_PlankError xh_PlankError p_NoField_PlankError
    t_NoLine_PlankError := exm_of xa_PlankError xd_PlankError xh_PlankError p_NoLine_PlankError
    t_NoShape_PlankError := exm_of xa_PlankError xd_PlankError xh_PlankError p_NoShape_PlankError
    t_PlankError_PlankError := exm_of xa_PlankError xd_PlankError xh_PlankError p_PlankError_PlankError
    v_NoBlock := v_NoBlock
    v_NoField := v_NoField
    v_NoLine := v_NoLine
    v_NoShape := v_NoShape
    v_PlankError := v_PlankError
    g_FIGURES := ⟨_, PySem.W.mg_of X G g_FIGURES⟩
    g_MOST_SYMBOLS := ⟨_, PySem.W.mg_of X G g_MOST_SYMBOLS⟩
    g_LEAST_RULE := ⟨_, PySem.W.mg_of X G g_LEAST_RULE⟩
    g_END_OF_RULES := ⟨_, PySem.W.mg_of X G g_END_OF_RULES⟩
    n_ValueError := PySem.W.mg_none_of X G z_ValueError
    n_bool := PySem.W.mg_none_of X G z_bool
    n_divmod := PySem.W.mg_none_of X G z_divmod
    n_enumerate := PySem.W.mg_none_of X G z_enumerate
    n_int := PySem.W.mg_none_of X G z_int
    n_isinstance := PySem.W.mg_none_of X G z_isinstance
    n_len := PySem.W.mg_none_of X G z_len
    n_range := PySem.W.mg_none_of X G z_range
    n_str := PySem.W.mg_none_of X G z_str
  }
  exact ⟨_, PySem.W.fnOf "law" "law" (defArgs s_law) (defBody s_law) (defScope s_law) .none kV_law dc_law pm_law an_law cd_law ct_law, rfl, fun s v => .of_eq rfl, fun base _ _ => ok_law T⟩
theorem walk {l : PySem.W.OpenLaw} {q : Program} {loose : List PySem.Str} {XP : (PySem.Str → Option Value) → Heap → Prop} {YP : World → Heap → Prop} {d : DefRec} {K : Params → PySem.W.Frag} (hn : l.most = some 63) (hdf : d.params.defaults = [])
    (hY : ∀ (w : World) (h : Heap), YP w h → (K w.params).In h)
    (F : ∀ (w : World) (mg : PySem.Str → Option Value) (fa : Addr) (h : Heap), (K w.params).In h → h.Ns mainGlobals mg → mg d.name = some (.ref fa) →
      ∃ (a : Ad) (fd : FuncData), fa = a.f_law ∧ (∀ (s : Shared) (u : Value), BindsTo s fd ⟨[u], []⟩ [("_law_script", u)]) ∧ ∀ base : Heap, (K w.params).In base → base.Ns mainGlobals mg → FnOk l.prog w (K w.params) mg base CX0 5 fa fd ["_law_script"] (sp_law (K w.params) a)) :
    PySem.W.WalkO q loose XP YP l.row.toRowW d [] (fun f vs => PySem.call f vs) :=
  L2.walk_of (n := 63) (k := 5) (x := "_law_script") (CX := fun _ => CX0) (sp := fun w vs H Q E => ∃ (ns : List Int) (Hv : Hp), Same Hv H ∧ Reps Hv vs [⟨tScr (K w.params), ns⟩] ∧ ns.length ≤ 63 ∧ ∀ v Hv' H', Grow Hv H Hv' H' → v = V.bl true → Q v H') hn (by decide) hdf ⟨rfl, by decide, by decide⟩ hY
    (fun w mg fa h h1 h2 h3 => by
      obtain ⟨a, fd, _, hb, hF⟩ := F w mg fa h h1 h2 h3
      exact ⟨fd, hb, fun base hi hns => FnOk.imp (hF base hi hns) fun vs H Q E h => by
        obtain ⟨ns, Hv, h1, h2, h3, h4⟩ := h
        exact ⟨ns, Hv, true, h1, h2, Lp.law_true ns h3, fun v Hv' H' hy c r => h4 v Hv' H' c.grow r.2⟩⟩)
    (fun _ _ a ns hl _ hS => ⟨ns, _, Same.refl _, .cons ⟨a, rfl, hS⟩ .nil, hl, fun v Hv' H' g e => e⟩) fun _ _ _ _ _ z => z
end Lw
open PySem PySem.W PyProof.Rows in
set_option maxRecDepth 100000 in
set_option maxHeartbeats 0 in
theorem PySem.Challenge.cw_spareplank_k81_blocks_as_texts_holds : PySem.Challenge.rw_spareplank_k81_blocks_as_texts.Holds := by
  w_on; o_law; k_head; (case hw => w_witness2)
  k_fill
  refine Lw.walk (l := PySem.Challenge.rw_spareplank_k81_blocks_as_texts) rfl rfl (fun w h Y => PySem.W.kIn_of Y) ?F
  case F =>
    intro w mg fa h KX G hmg
    refine' Lw.all_mk KX G hmg ?x_m_PlankError ?x_m_NoField ?x_m_NoShape ?x_m_NoBlock ?x_m_NoLine ?x_C_Field ?x_C_Blocks ?x_a_doubled ?x_l_doubled ?x_c_doubled ?x_k_doubled ?x_a_walk_of ?x_l_walk_of ?x_c_walk_of ?x_k_walk_of ?x_a_Field___init__ ?x_i_Field___init__ ?x_l_Field___init__ ?x_c_Field___init__ ?x_k_Field___init__ ?x_a_Blocks___init__ ?x_i_Blocks___init__ ?x_l_Blocks___init__ ?x_c_Blocks___init__ ?x_k_Blocks___init__ ?x_a_Blocks_good ?x_i_Blocks_good ?x_l_Blocks_good ?x_c_Blocks_good ?x_k_Blocks_good ?x_a_figures_of ?x_l_figures_of ?x_c_figures_of ?x_k_figures_of ?x_a_shown_block ?x_l_shown_block ?x_c_shown_block ?x_k_shown_block ?x_a_read_block ?x_l_read_block ?x_c_read_block ?x_k_read_block ?x_a_cell ?x_l_cell ?x_c_cell ?x_k_cell ?x_a_rule ?x_l_rule ?x_c_rule ?x_k_rule ?x_a_hex ?x_l_hex ?x_c_hex ?x_k_hex ?x_a_sign ?x_l_sign ?x_c_sign ?x_k_sign ?x_a_number ?x_l_number ?x_c_number ?x_k_number ?x_a_spoiled ?x_l_spoiled ?x_c_spoiled ?x_k_spoiled ?x_a_read ?x_l_read ?x_c_read ?x_k_read ?x_a_law ?x_l_law ?x_c_law ?x_k_law ?x_iC_NoField ?x_tI_NoField ?x_l_NoField___init__ ?x_c_NoField___init__ ?x_k_NoField___init__ ?x_cls_NoField ?x_sa_NoField ?x_kO_NoField ?x_xs1 ?x_xs2 ?x_ba_PlankError ?x_bb_PlankError ?x_bc_PlankError ?x_xa_NoBlock ?x_xb_NoBlock ?x_xc_NoBlock ?x_xd_NoBlock ?x_xe_NoBlock ?x_xf_NoBlock ?x_xg_NoBlock ?x_xh_NoBlock ?x_xa_NoField ?x_xb_NoField ?x_xc_NoField ?x_xd_NoField ?x_xe_NoField ?x_xf_NoField ?x_xg_NoField ?x_xh_NoField ?x_xa_NoLine ?x_xb_NoLine ?x_xc_NoLine ?x_xd_NoLine ?x_xe_NoLine ?x_xf_NoLine ?x_xg_NoLine ?x_xh_NoLine ?x_xa_NoShape ?x_xb_NoShape ?x_xc_NoShape ?x_xd_NoShape ?x_xe_NoShape ?x_xf_NoShape ?x_xg_NoShape ?x_xh_NoShape ?x_xa_PlankError ?x_xb_PlankError ?x_xc_PlankError ?x_xd_PlankError ?x_xe_PlankError ?x_xf_PlankError ?x_xg_PlankError ?x_xh_PlankError ?x_na_NoField_after ?x_na_NoField_rule ?x_p_NoBlock_NoBlock ?x_p_NoBlock_NoLine ?x_p_NoBlock_PlankError ?x_p_NoField_NoBlock ?x_p_NoField_NoLine ?x_p_NoField_PlankError ?x_p_NoLine_NoBlock ?x_p_NoLine_NoLine ?x_p_NoLine_PlankError ?x_p_NoShape_NoBlock ?x_p_NoShape_NoLine ?x_p_NoShape_PlankError ?x_p_PlankError_NoBlock ?x_p_PlankError_NoLine ?x_p_PlankError_PlankError ?x_q_NoLine ?x_kx_NoLine ?x_q_NoShape ?x_kx_NoShape ?x_s_NoBlock ?x_s_NoField ?x_s_NoLine ?x_s_NoShape ?x_s_PlankError ?x_v_NoBlock ?x_v_NoField ?x_v_NoLine ?x_v_NoShape ?x_v_PlankError ?x_pg_Field ?x_hd_Field ?x_po_Field ?x_sa_Field ?x_mk_Field ?x_kc_Field ?x_na_Field_rule ?x_na_Field_width ?x_na_Field_last ?x_na_Field_powers ?x_na_Field_logs ?x_pg_Blocks ?x_hd_Blocks ?x_po_Blocks ?x_sa_Blocks ?x_mk_Blocks ?x_kc_Blocks ?x_na_Blocks_field ?x_na_Blocks_many ?x_na_Blocks_limit ?x_na_Blocks_ones ?x_g_FIGURES ?x_g_MOST_SYMBOLS ?x_g_LEAST_RULE ?x_g_END_OF_RULES ?x_z_ValueError ?x_z_bool ?x_z_divmod ?x_z_enumerate ?x_z_int ?x_z_isinstance ?x_z_len ?x_z_range ?x_z_str
    (case x_m_PlankError => k_is)
    (case x_m_NoField => k_is)
    (case x_m_NoShape => k_is)
    (case x_m_NoBlock => k_is)
    (case x_m_NoLine => k_is)
    (case x_C_Field => k_is)
    (case x_C_Blocks => k_is)
    (case x_a_doubled => k_is)
    (case x_l_doubled => k_is)
    (case x_c_doubled => k_is)
    (case x_k_doubled => k_is)
    (case x_a_walk_of => k_is)
    (case x_l_walk_of => k_is)
    (case x_c_walk_of => k_is)
    (case x_k_walk_of => k_is)
    (case x_a_Field___init__ => k_is)
    (case x_i_Field___init__ => k_is)
    (case x_l_Field___init__ => k_is)
    (case x_c_Field___init__ => k_is)
    (case x_k_Field___init__ => k_is)
    (case x_a_Blocks___init__ => k_is)
    (case x_i_Blocks___init__ => k_is)
    (case x_l_Blocks___init__ => k_is)
    (case x_c_Blocks___init__ => k_is)
    (case x_k_Blocks___init__ => k_is)
    (case x_a_Blocks_good => k_is)
    (case x_i_Blocks_good => k_is)
    (case x_l_Blocks_good => k_is)
    (case x_c_Blocks_good => k_is)
    (case x_k_Blocks_good => k_is)
    (case x_a_figures_of => k_is)
    (case x_l_figures_of => k_is)
    (case x_c_figures_of => k_is)
    (case x_k_figures_of => k_is)
    (case x_a_shown_block => k_is)
    (case x_l_shown_block => k_is)
    (case x_c_shown_block => k_is)
    (case x_k_shown_block => k_is)
    (case x_a_read_block => k_is)
    (case x_l_read_block => k_is)
    (case x_c_read_block => k_is)
    (case x_k_read_block => k_is)
    (case x_a_cell => k_is)
    (case x_l_cell => k_is)
    (case x_c_cell => k_is)
    (case x_k_cell => k_is)
    (case x_a_rule => k_is)
    (case x_l_rule => k_is)
    (case x_c_rule => k_is)
    (case x_k_rule => k_is)
    (case x_a_hex => k_is)
    (case x_l_hex => k_is)
    (case x_c_hex => k_is)
    (case x_k_hex => k_is)
    (case x_a_sign => k_is)
    (case x_l_sign => k_is)
    (case x_c_sign => k_is)
    (case x_k_sign => k_is)
    (case x_a_number => k_is)
    (case x_l_number => k_is)
    (case x_c_number => k_is)
    (case x_k_number => k_is)
    (case x_a_spoiled => k_is)
    (case x_l_spoiled => k_is)
    (case x_c_spoiled => k_is)
    (case x_k_spoiled => k_is)
    (case x_a_read => k_is)
    (case x_l_read => k_is)
    (case x_c_read => k_is)
    (case x_k_read => k_is)
    (case x_a_law => k_is)
    (case x_l_law => k_is)
    (case x_c_law => k_is)
    (case x_k_law => k_is)
    (case x_iC_NoField => k_is)
    (case x_tI_NoField => k_is)
    (case x_l_NoField___init__ => k_is)
    (case x_c_NoField___init__ => k_is)
    (case x_k_NoField___init__ => k_is)
    (case x_cls_NoField => k_is)
    (case x_sa_NoField => k_is)
    (case x_kO_NoField => k_is)
    (case x_xs1 => k_is)
    (case x_xs2 => k_is)
    (case x_ba_PlankError => k_is)
    (case x_bb_PlankError => k_is)
    (case x_bc_PlankError => k_is)
    (case x_xa_NoBlock => k_is)
    (case x_xb_NoBlock => k_is)
    (case x_xc_NoBlock => k_is)
    (case x_xd_NoBlock => k_is)
    (case x_xe_NoBlock => k_is)
    (case x_xf_NoBlock => k_is)
    (case x_xg_NoBlock => k_is)
    (case x_xh_NoBlock => k_is)
    (case x_xa_NoField => k_is)
    (case x_xb_NoField => k_is)
    (case x_xc_NoField => k_is)
    (case x_xd_NoField => k_is)
    (case x_xe_NoField => k_is)
    (case x_xf_NoField => k_is)
    (case x_xg_NoField => k_is)
    (case x_xh_NoField => k_is)
    (case x_xa_NoLine => k_is)
    (case x_xb_NoLine => k_is)
    (case x_xc_NoLine => k_is)
    (case x_xd_NoLine => k_is)
    (case x_xe_NoLine => k_is)
    (case x_xf_NoLine => k_is)
    (case x_xg_NoLine => k_is)
    (case x_xh_NoLine => k_is)
    (case x_xa_NoShape => k_is)
    (case x_xb_NoShape => k_is)
    (case x_xc_NoShape => k_is)
    (case x_xd_NoShape => k_is)
    (case x_xe_NoShape => k_is)
    (case x_xf_NoShape => k_is)
    (case x_xg_NoShape => k_is)
    (case x_xh_NoShape => k_is)
    (case x_xa_PlankError => k_is)
    (case x_xb_PlankError => k_is)
    (case x_xc_PlankError => k_is)
    (case x_xd_PlankError => k_is)
    (case x_xe_PlankError => k_is)
    (case x_xf_PlankError => k_is)
    (case x_xg_PlankError => k_is)
    (case x_xh_PlankError => k_is)
    (case x_na_NoField_after => k_is)
    (case x_na_NoField_rule => k_is)
    (case x_p_NoBlock_NoBlock => k_is)
    (case x_p_NoBlock_NoLine => k_is)
    (case x_p_NoBlock_PlankError => k_is)
    (case x_p_NoField_NoBlock => k_is)
    (case x_p_NoField_NoLine => k_is)
    (case x_p_NoField_PlankError => k_is)
    (case x_p_NoLine_NoBlock => k_is)
    (case x_p_NoLine_NoLine => k_is)
    (case x_p_NoLine_PlankError => k_is)
    (case x_p_NoShape_NoBlock => k_is)
    (case x_p_NoShape_NoLine => k_is)
    (case x_p_NoShape_PlankError => k_is)
    (case x_p_PlankError_NoBlock => k_is)
    (case x_p_PlankError_NoLine => k_is)
    (case x_p_PlankError_PlankError => k_is)
    (case x_q_NoLine => k_exc)
    (case x_kx_NoLine => k_is)
    (case x_q_NoShape => k_exc)
    (case x_kx_NoShape => k_is)
    (case x_s_NoBlock => k_is)
    (case x_s_NoField => k_is)
    (case x_s_NoLine => k_is)
    (case x_s_NoShape => k_is)
    (case x_s_PlankError => k_is)
    (case x_v_NoBlock => k_is)
    (case x_v_NoField => k_is)
    (case x_v_NoLine => k_is)
    (case x_v_NoShape => k_is)
    (case x_v_PlankError => k_is)
    (case x_pg_Field => k_is)
    (case x_hd_Field => k_is)
    (case x_po_Field => k_is)
    (case x_sa_Field => k_is)
    (case x_mk_Field => k_is)
    (case x_kc_Field => k_is)
    (case x_na_Field_rule => k_is)
    (case x_na_Field_width => k_is)
    (case x_na_Field_last => k_is)
    (case x_na_Field_powers => k_is)
    (case x_na_Field_logs => k_is)
    (case x_pg_Blocks => k_is)
    (case x_hd_Blocks => k_is)
    (case x_po_Blocks => k_is)
    (case x_sa_Blocks => k_is)
    (case x_mk_Blocks => k_is)
    (case x_kc_Blocks => k_is)
    (case x_na_Blocks_field => k_is)
    (case x_na_Blocks_many => k_is)
    (case x_na_Blocks_limit => k_is)
    (case x_na_Blocks_ones => k_is)
    (case x_g_FIGURES => k_is)
    (case x_g_MOST_SYMBOLS => k_is)
    (case x_g_LEAST_RULE => k_is)
    (case x_g_END_OF_RULES => k_is)
    (case x_z_ValueError => k_is)
    (case x_z_bool => k_is)
    (case x_z_divmod => k_is)
    (case x_z_enumerate => k_is)
    (case x_z_int => k_is)
    (case x_z_isinstance => k_is)
    (case x_z_len => k_is)
    (case x_z_range => k_is)
    (case x_z_str => k_is)
