import PyProof.Rows.All
import Wide.All
import OpenK.AllK
import Wide.FinOn
import HandS.ForMost
import HandS.ForExc
import HandS.IsInst
import HandS.Flow
import HandS.Wide
import HandS.TupAny
import HandS.ExcInitHot
import HandS.Defaults
import HandS.MakeKwOnly
import KE.GoesEnum
import HandS.SlotsOwn
import HandS.Codes
import HandS.Iter
import HandS.Walk
import HandS.Conv
import HandS.SortRule
import HandS.TupSets
import HandS.RevRange
import HandS.ExcField
import KE.KExcIs
import HandS.Dict
import HandS.ExcIs
import PySem.Challenge.RW_endsalike_k09_rounds_and_reach
set_option Elab.async false
set_option linter.all false
set_option maxRecDepth 100000
set_option maxHeartbeats 1000000
/-! A typed layer over HandS: what a piece of code is worth in a context of typed slots; heaps are hidden. -/
namespace TL
open PySem L2

abbrev Fg := PySem.W.Frag

/-! ### readings as they are -/
def wE (X : Cx) (e : Expr) : TE := fun σ H Q => ∃ te, PE X e te ∧ te σ H Q
def wT (X : Cx) (e : Expr) : TT := fun σ H Q => ∃ te, PT X e te ∧ te σ H Q
def wA (X : Cx) (es : List Expr) : TA := fun σ H Q => ∃ te, PA X es te ∧ te σ H Q
def w1 (X : Cx) (st : Stmt) : TS := fun D σ H => ∃ t, PS X st t ∧ t D σ H
def wS (X : Cx) (sts : List Stmt) : TS := fun D σ H => ∃ t, PSs X sts t ∧ t D σ H
theorem pe_w {X : Cx} {e : Expr} : PE X e (wE X e) := ⟨fun pins s σ H Q I ⟨_, p, h⟩ => p.run pins s σ H Q I h⟩
theorem pt_w {X : Cx} {e : Expr} : PT X e (wT X e) := ⟨fun pins s σ H Q I ⟨_, p, h⟩ => p.run pins s σ H Q I h⟩
theorem pa_w {X : Cx} {es : List Expr} : PA X es (wA X es) := ⟨fun pos pins s σ H Q I ⟨_, p, h⟩ => p.run pos pins s σ H Q I h⟩
theorem ps_w {X : Cx} {st : Stmt} : PS X st (w1 X st) := ⟨fun pins s σ H D I ⟨_, p, h⟩ => p.run pins s σ H D I h⟩
theorem pss_w {X : Cx} {sts : List Stmt} : PSs X sts (wS X sts) := ⟨fun pins s σ H D I ⟨_, p, h⟩ => p.run pins s σ H D I h⟩

/-! ### heaps: H what stands, M ⊆ H what is frozen -/
structure Nx (M H M' H' : Hp) : Prop where
  ex : Same H H'
  vx : Same M M'
  sub : Same M' H'
  fr : ∀ a, M a = none → H a ≠ none → M' a = none
theorem Nx.refl {M H : Hp} (h : Same M H) : Nx M H M H := ⟨Same.refl _, Same.refl _, h, fun _ q _ => q⟩
theorem Nx.trans {M H M1 H1 M2 H2 : Hp} (a : Nx M H M1 H1) (b : Nx M1 H1 M2 H2) : Nx M H M2 H2 :=
  ⟨a.ex.trans b.ex, a.vx.trans b.vx, b.sub, fun x h q => b.fr x (a.fr x h q) fun z => by
    cases e : H x with
    | none => exact q e
    | some o => rw [a.ex x o e] at z; cases z⟩
theorem same_new {H : Hp} {p : Addr} {o : HO} (h : H p = none) : Same H (upd H p o) := fun a u e => by
  rw [upd_ne (ne_of_none e h)]; exact e
theorem same_updB {M H : Hp} {p : Addr} {o : HO} (h : Same M H) (hp : H p = none) : Same (upd M p o) (upd H p o) := fun a u e => by
  by_cases z : a = p
  · subst z; rw [upd_same] at e ⊢; exact e
  · rw [upd_ne z] at e ⊢; exact h a u e
theorem same_none {M H : Hp} (h : Same M H) {p : Addr} (hp : H p = none) : M p = none := h.free hp
theorem Nx.new {M H : Hp} (h : Same M H) {p : Addr} {o : HO} (hp : H p = none) : Nx M H (upd M p o) (upd H p o) :=
  ⟨same_new hp, same_new (same_none h hp), same_updB h hp, fun a e q => by
    rw [upd_ne (fun z => q (by rw [z]; exact hp))]; exact e⟩

/-! ### types -/
structure Ty (α : Type) where
  rep : Fg → Hp → V → α → Prop
  ext : ∀ {K : Fg} {M M' : Hp} {v : V} {x : α}, Same M M' → rep K M v x → rep K M' v x
theorem paired_imp {α β : Type} {F G : α → β → Prop} (f : ∀ a b, F a b → G a b) : ∀ {l₁ : List α} {l₂ : List β}, Paired F l₁ l₂ → Paired G l₁ l₂
  | _, _, .nil => .nil
  | _, _, .cons h t => .cons (f _ _ h) (paired_imp f t)
theorem paired_get {α β : Type} {F : α → β → Prop} : ∀ {l₁ : List α} {l₂ : List β} {i : Nat} {b : β}, Paired F l₁ l₂ → l₂[i]? = some b → ∃ a, l₁[i]? = some a ∧ F a b
  | _, _, _, _, .nil, e => by simp at e
  | _, _, 0, _, .cons r _, e => by simp at e; subst e; exact ⟨_, rfl, r⟩
  | _, _, i + 1, x, .cons _ t, e => by
    obtain ⟨u, h1, h2⟩ := paired_get (i := i) (b := x) t (by simpa using e)
    exact ⟨u, by simpa using h1, h2⟩
theorem paired_get' {α β : Type} {F : α → β → Prop} : ∀ {l₁ : List α} {l₂ : List β} {i : Nat} {a : α}, Paired F l₁ l₂ → l₁[i]? = some a → ∃ b, l₂[i]? = some b ∧ F a b
  | _, _, _, _, .nil, e => by simp at e
  | _, _, 0, _, .cons r _, e => by simp at e; subst e; exact ⟨_, rfl, r⟩
  | _, _, i + 1, x, .cons _ t, e => by
    obtain ⟨u, h1, h2⟩ := paired_get' (i := i) (a := x) t (by simpa using e)
    exact ⟨u, by simpa using h1, h2⟩
theorem paired_app {α β : Type} {F : α → β → Prop} : ∀ {l₁ m₁ : List α} {l₂ m₂ : List β}, Paired F l₁ l₂ → Paired F m₁ m₂ → Paired F (l₁ ++ m₁) (l₂ ++ m₂)
  | _, _, _, _, .nil, h => h
  | _, _, _, _, .cons r t, h => .cons r (paired_app t h)
theorem paired_take {α β : Type} {F : α → β → Prop} : ∀ {l₁ : List α} {l₂ : List β} (n : Nat), Paired F l₁ l₂ → Paired F (l₁.take n) (l₂.take n)
  | _, _, 0, _ => .nil
  | _, _, _ + 1, .nil => .nil
  | _, _, n + 1, .cons r t => .cons r (paired_take n t)
theorem paired_drop {α β : Type} {F : α → β → Prop} : ∀ {l₁ : List α} {l₂ : List β} (n : Nat), Paired F l₁ l₂ → Paired F (l₁.drop n) (l₂.drop n)
  | _, _, 0, h => h
  | _, _, _ + 1, .nil => .nil
  | _, _, n + 1, .cons _ t => paired_drop n t
theorem paired_set {α β : Type} {F : α → β → Prop} {a : α} {b : β} (h : F a b) : ∀ {l₁ : List α} {l₂ : List β} (i : Nat), Paired F l₁ l₂ → Paired F (l₁.set i a) (l₂.set i b)
  | _, _, _, .nil => .nil
  | _, _, 0, .cons _ t => .cons h t
  | _, _, i + 1, .cons q t => .cons q (paired_set h i t)

def tI : Ty Int := ⟨fun _ _ v i => v = .int i, fun _ h => h⟩
def tB : Ty Bool := ⟨fun _ _ v b => v = .bl b, fun _ h => h⟩
def tS : Ty Str := ⟨fun _ _ v s => v = .str s, fun _ h => h⟩
def tN : Ty Unit := ⟨fun _ _ v _ => v = .non, fun _ h => h⟩
theorem rd_ext {M M' : Hp} {a : Addr} {u : HO} (e : Same M M') (h : Rd M a u) : Rd M' a u := by
  rcases h with h | ⟨o, h⟩
  · exact .inl (e _ _ h)
  · exact .inr ⟨o, e _ _ h⟩
theorem sqT_ext {K : Fg} {M M' : Hp} {a : Addr} {xs : List V} (e : Same M M') (h : SqT K M a xs) : SqT K M' a xs := by
  rcases h with h | h
  · exact .inl (rd_ext e h)
  · exact .inr h
theorem sqL_ext {K : Fg} {M M' : Hp} {a : Addr} {xs : List V} (e : Same M M') (h : SqL K M a xs) : SqL K M' a xs := e.seq h
/-- a tuple, a list that is frozen, the script -/
def tTup {α : Type} (t : Ty α) : Ty (List α) := ⟨fun K M v xs => ∃ a vs, v = .ref a ∧ SqT K M a vs ∧ Paired (t.rep K M) vs xs,
  fun e ⟨a, vs, h1, h2, h3⟩ => ⟨a, vs, h1, sqT_ext e h2, paired_imp (fun _ _ q => t.ext e q) h3⟩⟩
def tLst {α : Type} (t : Ty α) : Ty (List α) := ⟨fun K M v xs => ∃ a vs, v = .ref a ∧ M a = some (.lst vs) ∧ Paired (t.rep K M) vs xs,
  fun e ⟨a, vs, h1, h2, h3⟩ => ⟨a, vs, h1, e _ _ h2, paired_imp (fun _ _ q => t.ext e q) h3⟩⟩
def tSq {α : Type} (t : Ty α) : Ty (List α) := ⟨fun K M v xs => ∃ a vs, v = .ref a ∧ SqL K M a vs ∧ Paired (t.rep K M) vs xs,
  fun e ⟨a, vs, h1, h2, h3⟩ => ⟨a, vs, h1, sqL_ext e h2, paired_imp (fun _ _ q => t.ext e q) h3⟩⟩
def tP2 {α β : Type} (s : Ty α) (t : Ty β) : Ty (α × β) := ⟨fun K M v x => ∃ a v1 v2, v = .ref a ∧ SqT K M a [v1, v2] ∧ s.rep K M v1 x.1 ∧ t.rep K M v2 x.2,
  fun e ⟨a, v1, v2, h1, h2, h3, h4⟩ => ⟨a, v1, v2, h1, sqT_ext e h2, s.ext e h3, t.ext e h4⟩⟩
def tP3 {α β γ : Type} (s : Ty α) (t : Ty β) (u : Ty γ) : Ty (α × β × γ) := ⟨fun K M v x => ∃ a v1 v2 v3, v = .ref a ∧ SqT K M a [v1, v2, v3] ∧ s.rep K M v1 x.1 ∧ t.rep K M v2 x.2.1 ∧ u.rep K M v3 x.2.2,
  fun e ⟨a, v1, v2, v3, h1, h2, h3, h4, h5⟩ => ⟨a, v1, v2, v3, h1, sqT_ext e h2, s.ext e h3, t.ext e h4, u.ext e h5⟩⟩
def tP4 {α β γ δ : Type} (s : Ty α) (t : Ty β) (u : Ty γ) (w : Ty δ) : Ty (α × β × γ × δ) := ⟨fun K M v x => ∃ a v1 v2 v3 v4, v = .ref a ∧ SqT K M a [v1, v2, v3, v4] ∧ s.rep K M v1 x.1 ∧ t.rep K M v2 x.2.1 ∧ u.rep K M v3 x.2.2.1 ∧ w.rep K M v4 x.2.2.2,
  fun e ⟨a, v1, v2, v3, v4, h1, h2, h3, h4, h5, h6⟩ => ⟨a, v1, v2, v3, v4, h1, sqT_ext e h2, s.ext e h3, t.ext e h4, u.ext e h5, w.ext e h6⟩⟩
/-- None, or such a one -/
def tO {α : Type} (t : Ty α) : Ty (Option α) := ⟨fun K M v x => match x with | none => v = .non | some y => t.rep K M v y, fun {K M M' v x} e h => by
  cases x with
  | none => exact h
  | some y => exact t.ext e h⟩
mutual
theorem dp_ext {K : Fg} {M M' : Hp} (e : Same M M') : ∀ (d : PyData) (v : V), Dp K M v d → Dp K M' v d
  | .none, _, h => by cases h; exact .non
  | .bool b, _, h => by cases h; exact .bl b
  | .int i, _, h => by cases h; exact .int i
  | .str s, _, h => by cases h; exact .str s
  | .list ds, _, h => by
    cases h with
    | lst h1 h2 => exact .lst (sqL_ext e h1) (dpAll_ext e ds _ h2)
  | .tuple ds, _, h => by
    cases h with
    | tup h1 h2 => exact .tup (sqT_ext e h1) (dpAll_ext e ds _ h2)
  | .dict kvs, _, h => by cases h
theorem dpAll_ext {K : Fg} {M M' : Hp} (e : Same M M') : ∀ (ds : List PyData) (vs : List V), DpAll K M vs ds → DpAll K M' vs ds
  | [], _, h => by cases h; exact .nil
  | d :: ds, _, h => by
    cases h with
    | cons h1 h2 => exact .cons (dp_ext e d _ h1) (dpAll_ext e ds _ h2)
end
/-- data of any shape -/
def tD : Ty PyData := ⟨fun K M v d => Dp K M v d, fun {K M M' v x} e h => dp_ext e x v h⟩

/-! ### slots -/
/-- a typed value -/
structure Cl : Type 1 where
  {α : Type}
  t : Ty α
  x : α
inductive FReps (K : Fg) (M : Hp) : List (Str × V) → List (Str × Cl) → Prop where
  | nil : FReps K M [] []
  | cons {f : Str} {v : V} {c : Cl} {vs : List (Str × V)} {cs : List (Str × Cl)} (h : c.t.rep K M v c.x) (r : FReps K M vs cs) : FReps K M ((f, v) :: vs) ((f, c) :: cs)
theorem freps_ext {K : Fg} {M M' : Hp} (e : Same M M') : ∀ {vs : List (Str × V)} {cs : List (Str × Cl)}, FReps K M vs cs → FReps K M' vs cs
  | _, _, .nil => .nil
  | _, _, .cons h r => .cons (Ty.ext _ e h) (freps_ext e r)
theorem freps_len {K : Fg} {M : Hp} : ∀ {vs : List (Str × V)} {cs : List (Str × Cl)}, FReps K M vs cs → vs.length = cs.length
  | _, _, .nil => rfl
  | _, _, .cons _ r => by simp [freps_len r]
theorem freps_lookup {K : Fg} {M : Hp} {f : Str} {c : Cl} : ∀ {vs : List (Str × V)} {cs : List (Str × Cl)}, FReps K M vs cs → cs.lookup f = some c → ∃ v, vs.lookup f = some v ∧ c.t.rep K M v c.x
  | _, _, .nil, e => by simp at e
  | _, _, .cons (f := g) (v := v) (c := d) h r, e => by
    by_cases z : f = g
    · subst z
      simp [List.lookup] at e
      subst e
      exact ⟨v, by simp [List.lookup], h⟩
    · have z' : (f == g) = false := by simpa using z
      simp only [List.lookup, z'] at e ⊢
      exact freps_lookup r e
theorem freps_none {K : Fg} {M : Hp} {f : Str} : ∀ {vs : List (Str × V)} {cs : List (Str × Cl)}, FReps K M vs cs → cs.lookup f = none → vs.lookup f = none
  | _, _, .nil, e => rfl
  | _, _, .cons (f := g) (v := v) (c := d) h r, e => by
    by_cases z : f = g
    · subst z
      simp [List.lookup] at e
    · have z' : (f == g) = false := by simpa using z
      simp only [List.lookup, z'] at e ⊢
      exact freps_none r e
/-- an instance of the class at C with these fields -/
def tOb {α : Type} (C : Addr) (fs : α → List (Str × Cl)) : Ty α := ⟨fun K M v x => ∃ a dx vs, v = .ref a ∧ M a = some (.ins C dx vs) ∧ FReps K M vs (fs x),
  fun e ⟨a, dx, vs, h1, h2, h3⟩ => ⟨a, dx, vs, h1, e _ _ h2, freps_ext e h3⟩⟩
theorem refs_inj : ∀ {bs cs : List Addr}, bs.map V.ref = cs.map V.ref → bs = cs
  | [], [], _ => rfl
  | [], _ :: _, h => by simp at h
  | _ :: _, [], h => by simp at h
  | b :: bs, c :: cs, h => by
    simp only [List.map_cons, List.cons.injEq, V.ref.injEq] at h
    rw [h.1, refs_inj h.2]
/-- any other thing of one's own, told by what stands at its address -/
structure Ct : Type 1 where
  rep : Fg → Hp → HO → Prop
  ext : ∀ {K : Fg} {M M' : Hp} {u : HO}, Same M M' → rep K M u → rep K M' u
  no : ∀ {K : Fg} {M : Hp} {u : HO}, rep K M u → ∀ p, u ≠ .own p
inductive Sl : Type 1 where
  | un
  | vl {α : Type} (t : Ty α) (x : α)
  | ow {α : Type} (t : Ty α) (xs : List α)
  | o2 {α : Type} (t : Ty α) (xss : List (List α))
  | ob (p dx C : Addr) (fs : List (Str × Cl))
  | ox (c : Ct)
def Sl.own : Sl → Bool
  | .ow _ _ => true
  | .o2 _ _ => true
  | .ob _ _ _ _ => true
  | .ox _ => true
  | _ => false
def RepS (K : Fg) (M : Hp) (v : V) : Sl → Prop
  | .vl t x => t.rep K M v x
  | _ => False
/-- a list of one's own at a -/
def OwnL (K : Fg) {α : Type} (t : Ty α) (H0 M H : Hp) (a : Addr) (xs : List α) : Prop := H0 a = none ∧ M a = none ∧ ∃ vs, H a = some (.lst vs) ∧ Paired (t.rep K M) vs xs
def Ok1 (K : Fg) (H0 M H : Hp) (o : Option V) (fp : List Addr) : Sl → Prop
  | .un => True
  | .vl t x => ∃ v, o = some v ∧ t.rep K M v x
  | .ow t xs => ∃ a, fp = [a] ∧ o = some (.ref a) ∧ OwnL K t H0 M H a xs
  | .o2 t xss => ∃ a bs, fp = a :: bs ∧ o = some (.ref a) ∧ H0 a = none ∧ M a = none ∧ H a = some (.lst (bs.map V.ref)) ∧ a ∉ bs ∧ bs.Nodup ∧ Paired (OwnL K t H0 M H) bs xss
  | .ob p dx C fs => fp = [p] ∧ o = some (.ref p) ∧ H0 p = none ∧ M p = none ∧ ∃ vs, H p = some (.ins C dx vs) ∧ H dx = some (.own p) ∧ H0 dx = none ∧ M dx = none ∧ FReps K M vs fs
  | .ox c => ∃ a u, fp = [a] ∧ o = some (.ref a) ∧ H0 a = none ∧ M a = none ∧ H a = some u ∧ c.rep K M u
structure St (K : Fg) (M0 H0 M H : Hp) (σ : L2.St) (G : List Sl) : Prop where
  nx : Nx M0 H0 M H
  len : σ.length = G.length
  sl : ∃ A : Nat → List Addr, (∀ i s, G[i]? = some s → ∃ o, σ[i]? = some o ∧ Ok1 K H0 M H o (A i) s) ∧ ∀ i j s t, G[i]? = some s → G[j]? = some t → s.own = true → t.own = true → i ≠ j → ∀ x, x ∈ A i → x ∉ A j
section
variable {K : Fg} {M0 H0 M H M' H' : Hp} {σ : L2.St} {G : List Sl}
theorem OwnL.next {α : Type} {t : Ty α} {a : Addr} {xs : List α} (n : Nx M H M' H') (h : OwnL K t H0 M H a xs) : OwnL K t H0 M' H' a xs := by
  obtain ⟨h0, hm, vs, hh, p⟩ := h
  exact ⟨h0, n.fr a hm (by rw [hh]; simp), vs, n.ex _ _ hh, paired_imp (fun _ _ q => t.ext n.vx q) p⟩
theorem OwnL.keep {α : Type} {t : Ty α} {a : Addr} {xs : List α} (h : OwnL K t H0 M H a xs) (k : H' a = H a) : OwnL K t H0 M H' a xs := by
  obtain ⟨h0, hm, vs, hh, p⟩ := h
  exact ⟨h0, hm, vs, by rw [k]; exact hh, p⟩
theorem OwnL.vw {α : Type} {t : Ty α} {a : Addr} {xs : List α} (h : OwnL K t H0 M H a xs) (m : Same M M') (k : M' a = none) : OwnL K t H0 M' H a xs := by
  obtain ⟨h0, hm, vs, hh, p⟩ := h
  exact ⟨h0, k, vs, hh, paired_imp (fun _ _ q => t.ext m q) p⟩
theorem Ok1.next {o : Option V} {a : List Addr} {s : Sl} (n : Nx M H M' H') (h : Ok1 K H0 M H o a s) : Ok1 K H0 M' H' o a s := by
  cases s with
  | un => trivial
  | vl t x => obtain ⟨v, e, r⟩ := h; exact ⟨v, e, t.ext n.vx r⟩
  | ow t xs => obtain ⟨b, f, e, r⟩ := h; exact ⟨b, f, e, r.next n⟩
  | o2 t xss =>
    obtain ⟨b, bs, f, e, h0, hm, hh, q1, q2, p⟩ := h
    exact ⟨b, bs, f, e, h0, n.fr b hm (by rw [hh]; simp), n.ex _ _ hh, q1, q2, paired_imp (fun _ _ r => r.next n) p⟩
  | ob p dx C fs =>
    obtain ⟨ea, e, h0, hm, vs, hh, hd, h0d, md, q⟩ := h
    exact ⟨ea, e, h0, n.fr p hm (by rw [hh]; simp), vs, n.ex _ _ hh, n.ex _ _ hd, h0d, n.fr dx md (by rw [hd]; simp), freps_ext n.vx q⟩
  | ox c =>
    obtain ⟨b, u, ea, e, h0, hm, hh, q⟩ := h
    exact ⟨b, u, ea, e, h0, n.fr b hm (by rw [hh]; simp), n.ex _ _ hh, c.ext n.vx q⟩
/-- the heap changes elsewhere -/
theorem Ok1.keep {o : Option V} {a : List Addr} {s : Sl} (h : Ok1 K H0 M H o a s) (k : ∀ x ∈ a, H' x = H x) (kd : ∀ d p, H d = some (.own p) → H' d = some (.own p)) : Ok1 K H0 M H' o a s := by
  cases s with
  | un => trivial
  | vl t x => exact h
  | ow t xs => obtain ⟨b, rfl, e, r⟩ := h; exact ⟨b, rfl, e, r.keep (k b (by simp))⟩
  | o2 t xss =>
    obtain ⟨b, bs, rfl, e, h0, hm, hh, q1, q2, p⟩ := h
    refine ⟨b, bs, rfl, e, h0, hm, by rw [k b (by simp)]; exact hh, q1, q2, ?_⟩
    have key : ∀ {bs : List Addr} {xss}, (∀ x ∈ bs, H' x = H x) → Paired (OwnL K t H0 M H) bs xss → Paired (OwnL K t H0 M H') bs xss := by
      intro bs xss kk pp
      induction pp with
      | nil => exact .nil
      | cons r _ ih => exact .cons (r.keep (kk _ (by simp))) (ih fun x hx => kk x (by simp [hx]))
    exact key (fun x hx => k x (by simp [hx])) p
  | ob p dx C fs =>
    obtain ⟨rfl, e, h0, hm, vs, hh, hd, h0d, md, q⟩ := h
    exact ⟨rfl, e, h0, hm, vs, by rw [k p (by simp)]; exact hh, kd _ _ hd, h0d, md, q⟩
  | ox c =>
    obtain ⟨b, u, rfl, e, h0, hm, hh, q⟩ := h
    exact ⟨b, u, rfl, e, h0, hm, by rw [k b (by simp)]; exact hh, q⟩
/-- the view grows elsewhere -/
theorem Ok1.vw {o : Option V} {a : List Addr} {s : Sl} (h : Ok1 K H0 M H o a s) (m : Same M M') (k : ∀ x ∈ a, M' x = none) (kd : ∀ d p, H d = some (.own p) → M d = none → M' d = none) : Ok1 K H0 M' H o a s := by
  cases s with
  | un => trivial
  | vl t x => obtain ⟨v, e, r⟩ := h; exact ⟨v, e, t.ext m r⟩
  | ow t xs => obtain ⟨b, rfl, e, r⟩ := h; exact ⟨b, rfl, e, r.vw m (k b (by simp))⟩
  | o2 t xss =>
    obtain ⟨b, bs, rfl, e, h0, hm, hh, q1, q2, p⟩ := h
    refine ⟨b, bs, rfl, e, h0, k b (by simp), hh, q1, q2, ?_⟩
    have key : ∀ {bs : List Addr} {xss}, (∀ x ∈ bs, M' x = none) → Paired (OwnL K t H0 M H) bs xss → Paired (OwnL K t H0 M' H) bs xss := by
      intro bs xss kk pp
      induction pp with
      | nil => exact .nil
      | cons r _ ih => exact .cons (r.vw m (kk _ (by simp))) (ih fun x hx => kk x (by simp [hx]))
    exact key (fun x hx => k x (by simp [hx])) p
  | ob p dx C fs =>
    obtain ⟨rfl, e, h0, hm, vs, hh, hd, h0d, md, q⟩ := h
    exact ⟨rfl, e, h0, k p (by simp), vs, hh, hd, h0d, kd _ _ hd md, freps_ext m q⟩
  | ox c =>
    obtain ⟨b, u, rfl, e, h0, hm, hh, q⟩ := h
    exact ⟨b, u, rfl, e, h0, k b (by simp), hh, c.ext m q⟩
/-- what stands at an own slot's addresses -/
theorem Ok1.there {o : Option V} {a : List Addr} {s : Sl} (h : Ok1 K H0 M H o a s) (ho : s.own = true) : ∀ x ∈ a, H0 x = none ∧ M x = none ∧ ((∃ vs, H x = some (.lst vs)) ∨ (∃ C dx vs, H x = some (.ins C dx vs)) ∨ ∃ u, H x = some u ∧ ∀ p, u ≠ .own p) := by
  cases s with
  | un => cases ho
  | vl t x => cases ho
  | ow t xs =>
    obtain ⟨b, rfl, e, h0, hm, vs, hh, p⟩ := h
    intro x hx
    rw [List.mem_singleton.mp hx]; exact ⟨h0, hm, .inl ⟨vs, hh⟩⟩
  | o2 t xss =>
    obtain ⟨b, bs, rfl, e, h0, hm, hh, q1, q2, p⟩ := h
    intro x hx
    rcases List.mem_cons.mp hx with rfl | hx
    · exact ⟨h0, hm, .inl ⟨_, hh⟩⟩
    · obtain ⟨i, hi⟩ := List.getElem?_of_mem hx
      obtain ⟨xs, _, h0, hm, vs, hh, _⟩ := paired_get' p hi
      exact ⟨h0, hm, .inl ⟨vs, hh⟩⟩
  | ob p dx C fs =>
    obtain ⟨rfl, e, h0, hm, vs, hh, hd, h0d, md, q⟩ := h
    intro x hx
    rw [List.mem_singleton.mp hx]; exact ⟨h0, hm, .inr (.inl ⟨C, dx, vs, hh⟩)⟩
  | ox c =>
    obtain ⟨b, u, rfl, e, h0, hm, hh, q⟩ := h
    intro x hx
    rw [List.mem_singleton.mp hx]; exact ⟨h0, hm, .inr (.inr ⟨u, hh, c.no q⟩)⟩
theorem St.next (S : St K M0 H0 M H σ G) (n : Nx M H M' H') : St K M0 H0 M' H' σ G := by
  obtain ⟨A, h1, h2⟩ := S.sl
  exact ⟨S.nx.trans n, S.len, A, fun i s e => by
    obtain ⟨o, q, r⟩ := h1 i s e
    exact ⟨o, q, r.next n⟩, h2⟩
theorem St.sub (S : St K M0 H0 M H σ G) : Same M H := S.nx.sub
theorem St.get {α : Type} {t : Ty α} {x : α} {i : Nat} (S : St K M0 H0 M H σ G) (h : G[i]? = some (.vl t x)) : ∃ v, σ[i]? = some (some v) ∧ t.rep K M v x := by
  obtain ⟨A, h1, _⟩ := S.sl
  obtain ⟨o, q, v, e, r⟩ := h1 i _ h
  exact ⟨v, by rw [q, e], r⟩
/-- THE CHANGE of one slot: i gets s with the footprint fp, the value o -/
theorem St.change {s : Sl} {i : Nat} {o : Option V} {fp : List Addr} (S : St K M0 H0 M H σ G) (n : Nx M0 H0 M' H') (ho : s.own = true → ∀ (A : Nat → List Addr), (∀ i s, G[i]? = some s → ∃ o, σ[i]? = some o ∧ Ok1 K H0 M H o (A i) s) →
      (∀ i j s t, G[i]? = some s → G[j]? = some t → s.own = true → t.own = true → i ≠ j → ∀ x, x ∈ A i → x ∉ A j) → ∀ j t, j ≠ i → G[j]? = some t → t.own = true → ∀ x ∈ A j, x ∉ fp)
    (hk : ∀ (A : Nat → List Addr), (∀ i s, G[i]? = some s → ∃ o, σ[i]? = some o ∧ Ok1 K H0 M H o (A i) s) → (∀ i j s t, G[i]? = some s → G[j]? = some t → s.own = true → t.own = true → i ≠ j → ∀ x, x ∈ A i → x ∉ A j) →
      ∀ j t o', j ≠ i → G[j]? = some t → Ok1 K H0 M H o' (A j) t → Ok1 K H0 M' H' o' (A j) t) (hs : Ok1 K H0 M' H' o fp s) : St K M0 H0 M' H' (σ.set i o) (G.set i s) := by
  obtain ⟨A, h1, h2⟩ := S.sl
  refine ⟨n, by rw [List.length_set, List.length_set]; exact S.len, fun j => if j = i then fp else A j, fun j u e => ?_, fun j k u w e1 e2 o1 o2 ne x hx => ?_⟩
  · by_cases z : i = j
    · subst z
      have hl : i < G.length := by
        have := (List.getElem?_eq_some_iff.mp e).1
        rwa [List.length_set] at this
      rw [List.getElem?_set_self hl] at e
      cases e
      refine ⟨o, List.getElem?_set_self (by rw [S.len]; exact hl), ?_⟩
      show Ok1 K H0 M' H' o (if i = i then fp else A i) _
      rw [if_pos rfl]; exact hs
    · rw [List.getElem?_set_ne z] at e
      rw [List.getElem?_set_ne z]
      obtain ⟨o', q, r⟩ := h1 j u e
      refine ⟨o', q, ?_⟩
      show Ok1 K H0 M' H' o' (if j = i then fp else A j) _
      rw [if_neg (Ne.symm z)]
      exact hk A h1 h2 j u o' (Ne.symm z) e r
  · have hx' : x ∈ (if j = i then fp else A j) := hx
    show x ∉ (if k = i then fp else A k)
    by_cases zj : j = i
    · by_cases zk : k = i
      · exact absurd (zj.trans zk.symm) ne
      · rw [if_pos zj] at hx'
        rw [if_neg zk]
        rw [List.getElem?_set_ne (Ne.symm zk)] at e2
        have hj : G[i]? = some (G[i]?.getD .un) ∨ G[i]? = none := by
          cases q : G[i]? with
          | none => exact .inr rfl
          | some u => exact .inl rfl
        have hl : i < G.length := by
          have := (List.getElem?_eq_some_iff.mp e1).1
          rw [List.length_set, zj] at this; exact this
        rw [zj, List.getElem?_set_self hl] at e1
        cases e1
        intro hk'
        exact ho o1 A h1 h2 k w zk e2 o2 x hk' hx'
    · rw [if_neg zj] at hx'
      rw [List.getElem?_set_ne (Ne.symm zj)] at e1
      by_cases zk : k = i
      · rw [if_pos zk]
        have hl : i < G.length := by
          have := (List.getElem?_eq_some_iff.mp e2).1
          rw [List.length_set, zk] at this; exact this
        rw [zk, List.getElem?_set_self hl] at e2
        cases e2
        exact ho o2 A h1 h2 j u zj e1 o1 x hx'
      · rw [if_neg zk]
        rw [List.getElem?_set_ne (Ne.symm zk)] at e2
        exact h2 j k u w e1 e2 o1 o2 ne x hx'
/-- a slot is stored -/
theorem St.set {s : Sl} {i : Nat} {v : V} (S : St K M0 H0 M H σ G) (hr : RepS K M v s) : St K M0 H0 M H (σ.set i (some v)) (G.set i s) := by
  have no : s.own = false := by cases s <;> first | rfl | exact hr.elim
  refine S.change (fp := []) S.nx (fun h => by rw [no] at h; cases h) (fun _ _ _ _ _ _ _ _ r => r) ?_
  cases s with
  | vl t x => exact ⟨v, rfl, hr⟩
  | un => trivial
  | ow t xs => exact hr.elim
  | o2 t xs => exact hr.elim
  | ob p dx C fs => exact hr.elim
  | ox c => exact hr.elim
/-- a slot is forgotten, its value too -/
theorem St.drop {i : Nat} (S : St K M0 H0 M H σ G) : St K M0 H0 M H (σ.set i none) (G.set i .un) :=
  S.change (fp := []) S.nx (fun h => by cases h) (fun _ _ _ _ _ _ _ _ r => r) trivial
/-- a new list of its own: at p, not frozen -/
theorem St.setOwn {α : Type} {t : Ty α} {xs : List α} {vs : List V} {i : Nat} {p : Addr} (S : St K M0 H0 M H σ G) (n : Nx M H M' H') (hp : H p = none) (mp : M' p = none) (hH : H' p = some (.lst vs)) (hr : Paired (t.rep K M') vs xs) :
    St K M0 H0 M' H' (σ.set i (some (.ref p))) (G.set i (.ow t xs)) := by
  have h0p : H0 p = none := S.nx.ex.free hp
  refine S.change (fp := [p]) (S.nx.trans n) (fun _ A h1 _ j t' _ e o x hx hx2 => ?_) (fun _ _ _ _ _ _ _ _ r => r.next n) ⟨p, rfl, rfl, h0p, mp, vs, hH, hr⟩
  obtain ⟨_, _, r⟩ := h1 j t' e
  obtain ⟨_, _, q⟩ := r.there o x hx
  rw [List.mem_singleton.mp hx2, hp] at q
  rcases q with ⟨_, q⟩ | ⟨_, _, _, q⟩ | ⟨_, q, _⟩ <;> cases q
theorem own_upd {a : Addr} {u o : HO} (hh : H a = some u) (hu : ∀ p, u ≠ .own p) : ∀ d p, H d = some (.own p) → upd H a o d = some (.own p) := fun d p e => by
  rw [upd_ne (ne_of e hh (fun q => hu p q.symm))]; exact e
theorem St.value (S : St K M0 H0 M H σ G) {i : Nat} {o : Option V} (h : σ[i]? = some o) : σ.set i o = σ := by
  apply List.ext_getElem?
  intro j
  by_cases hj : i = j
  · subst hj
    rw [List.getElem?_set_self (List.getElem?_eq_some_iff.mp h).1, h]
  · rw [List.getElem?_set_ne hj]
theorem nx_upd {a : Addr} {o : HO} (n : Nx M0 H0 M H) (h0 : H0 a = none) (hm : M a = none) : Nx M0 H0 M (upd H a o) :=
  ⟨fun b u e => by rw [upd_ne (ne_of_none e h0)]; exact n.ex b u e, n.vx, fun b u e => by rw [upd_ne (ne_of_none e hm)]; exact n.sub b u e, n.fr⟩
/-- a list of one's own is changed -/
theorem St.putOwn {α : Type} {t : Ty α} {xs ys : List α} {i : Nat} (S : St K M0 H0 M H σ G) (h : G[i]? = some (.ow t xs)) :
    ∃ a vs, σ[i]? = some (some (.ref a)) ∧ H a = some (.lst vs) ∧ M a = none ∧ Paired (t.rep K M) vs xs ∧ ∀ ws, Paired (t.rep K M) ws ys → St K M0 H0 M (upd H a (.lst ws)) σ (G.set i (.ow t ys)) := by
  obtain ⟨A0, h10, h20⟩ := S.sl
  obtain ⟨o, q, a, ef, e, h0, hm, vs, hh, p⟩ := h10 i _ h
  subst e
  refine ⟨a, vs, q, hh, hm, p, fun ws pw => ?_⟩
  rw [← S.value q]
  refine S.change (fp := [a]) (nx_upd S.nx h0 hm) (fun _ A h1 h2 j t' nj e' o' x hx hx2 => ?_) (fun A h1 h2 j t' o' nj e' r => ?_) ⟨a, rfl, rfl, h0, hm, ws, upd_same, pw⟩
  · obtain ⟨o2, q2, a2, ef2, e2, _⟩ := h1 i _ h
    rw [q] at q2; cases q2; cases e2
    exact h2 j i _ _ e' h o' rfl nj x hx (by rw [ef2]; exact hx2)
  · by_cases ho : t'.own = true
    · obtain ⟨o2, q2, a2, ef2, e2, _⟩ := h1 i _ h
      rw [q] at q2; cases q2; cases e2
      exact r.keep (fun x hx => upd_ne (fun z => h2 j i _ _ e' h ho rfl nj x hx (by rw [ef2, z]; simp))) (own_upd hh (fun _ => by simp))
    · cases t' with
      | un => trivial
      | vl t x => exact r
      | ow _ _ => exact absurd rfl ho
      | o2 _ _ => exact absurd rfl ho
      | ob _ _ _ _ => exact absurd rfl ho
      | ox _ => exact absurd rfl ho
/-- an object of one's own gets a field -/
theorem St.putOb {p dx C : Addr} {fs fs' : List (Str × Cl)} {i : Nat} (S : St K M0 H0 M H σ G) (h : G[i]? = some (.ob p dx C fs)) :
    ∃ vs, σ[i]? = some (some (.ref p)) ∧ H p = some (.ins C dx vs) ∧ M p = none ∧ FReps K M vs fs ∧ ∀ ws, FReps K M ws fs' → St K M0 H0 M (upd H p (.ins C dx ws)) σ (G.set i (.ob p dx C fs')) := by
  obtain ⟨A0, h10, h20⟩ := S.sl
  obtain ⟨o, q, ef, e, h0, hm, vs, hh, hd, h0d, md, pr⟩ := h10 i _ h
  subst e
  refine ⟨vs, q, hh, hm, pr, fun ws pw => ?_⟩
  rw [← S.value q]
  refine S.change (fp := [p]) (nx_upd S.nx h0 hm) (fun _ A h1 h2 j t' nj e' o' x hx hx2 => ?_) (fun A h1 h2 j t' o' nj e' r => ?_) ⟨rfl, rfl, h0, hm, ws, upd_same, own_upd hh (fun _ => by simp) _ _ hd, h0d, md, pw⟩
  · obtain ⟨o2, q2, ef2, _⟩ := h1 i _ h
    exact h2 j i _ _ e' h o' rfl nj x hx (by rw [ef2]; exact hx2)
  · by_cases ho : t'.own = true
    · obtain ⟨o2, q2, ef2, _⟩ := h1 i _ h
      exact r.keep (fun x hx => upd_ne (fun z => h2 j i _ _ e' h ho rfl nj x hx (by rw [ef2, z]; simp))) (own_upd hh (fun _ => by simp))
    · cases t' with
      | un => trivial
      | vl t x => exact r
      | ow _ _ => exact absurd rfl ho
      | o2 _ _ => exact absurd rfl ho
      | ob _ _ _ _ => exact absurd rfl ho
      | ox _ => exact absurd rfl ho
/-- .. what is known of it at the end -/
theorem St.getOb {p dx C : Addr} {fs : List (Str × Cl)} {i : Nat} (S : St K M0 H0 M H σ G) (h : G[i]? = some (.ob p dx C fs)) :
    ∃ vs, σ[i]? = some (some (.ref p)) ∧ H p = some (.ins C dx vs) ∧ H dx = some (.own p) ∧ M p = none ∧ M dx = none ∧ FReps K M vs fs := by
  obtain ⟨A, h1, h2⟩ := S.sl
  obtain ⟨o, q, ea, e, h0, hm, vs, hh, hd, h0d, md, pr⟩ := h1 i _ h
  exact ⟨vs, by rw [q, e], hh, hd, hm, md, pr⟩
/-- a list of one's own is frozen -/
theorem St.freeze {α : Type} {t : Ty α} {xs : List α} {i : Nat} (S : St K M0 H0 M H σ G) (h : G[i]? = some (.ow t xs)) :
    ∃ a vs, H a = some (.lst vs) ∧ M a = none ∧ H0 a = none ∧ St K M0 H0 (upd M a (.lst vs)) H σ (G.set i (.vl (tLst t) xs)) := by
  obtain ⟨A0, h10, h20⟩ := S.sl
  obtain ⟨o, q, a, ef, e, h0, hm, vs, hh, p⟩ := h10 i _ h
  subst e
  have mm : Same M (upd M a (.lst vs)) := same_new hm
  refine ⟨a, vs, hh, hm, h0, ?_⟩
  rw [← S.value q]
  refine S.change (fp := []) ⟨S.nx.ex, S.nx.vx.trans mm, fun b u e => ?_, fun b n1 n2 => ?_⟩ (fun h => by cases h) (fun A h1 h2 j t' o' nj e' r => ?_) ⟨.ref a, rfl, a, vs, rfl, upd_same, paired_imp (fun _ _ r => t.ext mm r) p⟩
  · by_cases z : b = a
    · subst z; rw [upd_same] at e; cases e; exact hh
    · rw [upd_ne z] at e; exact S.sub b u e
  · rw [upd_ne (fun z => n2 (by rw [z]; exact h0))]; exact S.nx.fr b n1 n2
  · by_cases ho : t'.own = true
    · obtain ⟨o2, q2, a2, ef2, e2, _⟩ := h1 i _ h
      rw [q] at q2; cases q2; cases e2
      refine r.vw mm (fun x hx => ?_) (fun d p e md => by rw [upd_ne (ne_of e hh (by simp))]; exact md)
      rw [upd_ne (fun z => h2 j i _ _ e' h ho rfl nj x hx (by rw [ef2, z]; simp))]
      exact (r.there ho x hx).2.1
    · cases t' with
      | un => trivial
      | vl t x => obtain ⟨v, r1, r2⟩ := r; exact ⟨v, r1, t.ext mm r2⟩
      | ow _ _ => exact absurd rfl ho
      | o2 _ _ => exact absurd rfl ho
      | ob _ _ _ _ => exact absurd rfl ho
      | ox _ => exact absurd rfl ho

/-! ### a list of lists, all of one's own -/
/-- a new one: at p, its items at bs -/
theorem St.setOwn2 {α : Type} {t : Ty α} {xss : List (List α)} {bs : List Addr} {i : Nat} {p : Addr} (S : St K M0 H0 M H σ G) (n : Nx M H M' H') (hp : H p = none) (mp : M' p = none) (hH : H' p = some (.lst (bs.map V.ref))) (hb : ∀ x ∈ bs, H x = none) (hpb : p ∉ bs) (nd : bs.Nodup)
    (hr : Paired (fun b xs => M' b = none ∧ ∃ vs, H' b = some (.lst vs) ∧ Paired (t.rep K M') vs xs) bs xss) : St K M0 H0 M' H' (σ.set i (some (.ref p))) (G.set i (.o2 t xss)) := by
  have h0p : H0 p = none := S.nx.ex.free hp
  have fresh : ∀ x ∈ p :: bs, H x = none := fun x hx => by
    rcases List.mem_cons.mp hx with rfl | hx
    · exact hp
    · exact hb x hx
  refine S.change (fp := p :: bs) (S.nx.trans n) (fun _ A h1 _ j t' _ e o x hx hx2 => ?_) (fun _ _ _ _ _ _ _ _ r => r.next n) ⟨p, bs, rfl, rfl, h0p, mp, hH, hpb, nd, ?_⟩
  · obtain ⟨_, _, r⟩ := h1 j t' e
    obtain ⟨_, _, q⟩ := r.there o x hx
    rw [fresh x hx2] at q
    rcases q with ⟨_, q⟩ | ⟨_, _, _, q⟩ | ⟨_, q, _⟩ <;> cases q
  · have key : ∀ {bs : List Addr} {xss : List (List α)}, (∀ x ∈ bs, H x = none) → Paired (fun b xs => M' b = none ∧ ∃ vs, H' b = some (.lst vs) ∧ Paired (t.rep K M') vs xs) bs xss → Paired (OwnL K t H0 M' H') bs xss := by
      intro bs xss kk pp
      induction pp with
      | nil => exact .nil
      | cons r _ ih => exact .cons ⟨S.nx.ex.free (kk _ (by simp)), r.1, r.2⟩ (ih fun x hx => kk x (by simp [hx]))
    exact key hb hr
/-- its j-th list is changed -/
theorem St.put2 {α : Type} {t : Ty α} {xss : List (List α)} {xs ys : List α} {i j : Nat} (S : St K M0 H0 M H σ G) (h : G[i]? = some (.o2 t xss)) (hj : xss[j]? = some xs) :
    ∃ (a : Addr) (bs : List Addr) (b : Addr) (vs : List V), σ[i]? = some (some (.ref a)) ∧ H a = some (.lst (bs.map V.ref)) ∧ bs.length = xss.length ∧ bs[j]? = some b ∧ H b = some (.lst vs) ∧ M b = none ∧ Paired (t.rep K M) vs xs ∧ ∀ ws, Paired (t.rep K M) ws ys → St K M0 H0 M (upd H b (.lst ws)) σ (G.set i (.o2 t (xss.set j ys))) := by
  obtain ⟨A0, h10, h20⟩ := S.sl
  obtain ⟨o, q, a, bs, ef, e, h0, hm, hh, n1, n2, p⟩ := h10 i _ h
  subst e
  obtain ⟨b, eb, b0, bm, vs, hb, pr⟩ := paired_get p hj
  refine ⟨a, bs, b, vs, q, hh, p.length, eb, hb, bm, pr, fun ws pw => ?_⟩
  have bmem : b ∈ bs := List.mem_of_getElem? eb
  rw [← S.value q]
  refine S.change (fp := a :: bs) (nx_upd S.nx b0 bm) (fun _ A h1 h2 l t' nj e' o' x hx hx2 => ?_) (fun A h1 h2 l t' o' nj e' r => ?_) ⟨a, bs, rfl, rfl, h0, hm, by rw [upd_ne (fun z => n1 (by rw [z]; exact bmem))]; exact hh, n1, n2, ?_⟩
  · obtain ⟨o2, q2, a2, bs2, ef2, e2, _, _, hh2, _⟩ := h1 i _ h
    rw [q] at q2; cases q2; cases e2
    rw [hh] at hh2
    have eb2 : bs = bs2 := by
      have := Option.some.inj hh2
      injection this with this
      exact refs_inj this
    subst eb2
    exact h2 l i _ _ e' h o' rfl nj x hx (by rw [ef2]; exact hx2)
  · by_cases ho : t'.own = true
    · obtain ⟨o2, q2, a2, bs2, ef2, e2, _, _, hh2, _⟩ := h1 i _ h
      rw [q] at q2; cases q2; cases e2
      rw [hh] at hh2
      have eb2 : bs = bs2 := by
        have := Option.some.inj hh2
        injection this with this
        exact refs_inj this
      subst eb2
      exact r.keep (fun x hx => upd_ne (fun z => h2 l i _ _ e' h ho rfl nj x hx (by rw [ef2, z]; simp [bmem]))) (own_upd hb (fun _ => by simp))
    · cases t' with
      | un => trivial
      | vl t x => exact r
      | ow _ _ => exact absurd rfl ho
      | o2 _ _ => exact absurd rfl ho
      | ob _ _ _ _ => exact absurd rfl ho
      | ox _ => exact absurd rfl ho
  · have key2 : ∀ {cs : List Addr} {yss : List (List α)}, (∀ x ∈ cs, x ≠ b) → Paired (OwnL K t H0 M H) cs yss → Paired (OwnL K t H0 M (upd H b (.lst ws))) cs yss := by
      intro cs yss kk qq
      induction qq with
      | nil => exact .nil
      | cons r _ ih => exact .cons (r.keep (upd_ne (kk _ (by simp)))) (ih fun x hx => kk x (by simp [hx]))
    have key : ∀ {bs : List Addr} {xss : List (List α)} {j : Nat}, bs.Nodup → bs[j]? = some b → Paired (OwnL K t H0 M H) bs xss → Paired (OwnL K t H0 M (upd H b (.lst ws))) bs (xss.set j ys) := by
      intro bs xss j nd hb' pp
      induction pp generalizing j with
      | nil => exact .nil
      | cons r rest ih =>
        cases j with
        | zero =>
          have e1 := Option.some.inj (show some _ = some b from by simpa using hb')
          subst e1
          refine .cons ⟨r.1, r.2.1, ws, upd_same, pw⟩ ?_
          exact key2 (fun x hx z => (List.nodup_cons.mp nd).1 (by rw [← z]; exact hx)) rest
        | succ j =>
          rw [List.getElem?_cons_succ] at hb'
          exact .cons (r.keep (upd_ne (fun z => (List.nodup_cons.mp nd).1 (by rw [z]; exact List.mem_of_getElem? hb')))) (ih (List.nodup_cons.mp nd).2 hb')
    exact key n2 eb p
/-- its j-th list is exchanged for a new one at p; a new list is put behind -/
theorem St.new2 {α : Type} {t : Ty α} {xss yss : List (List α)} {i : Nat} {p : Addr} {cs : List Addr → List Addr} {xs : List α} {vs : List V} (S : St K M0 H0 M H σ G) (h : G[i]? = some (.o2 t xss)) (n : Nx M H M' H') (hp : H p = none) (mp : M' p = none) (hv : H' p = some (.lst vs)) (hr : Paired (t.rep K M') vs xs)
    (hc : ∀ bs : List Addr, bs.length = xss.length → bs.Nodup → p ∉ bs → (cs bs).Nodup ∧ ∀ x ∈ cs bs, x = p ∨ x ∈ bs) (hc2 : ∀ {F : Addr → List α → Prop} {bs : List Addr}, F p xs → Paired F bs xss → Paired F (cs bs) yss) :
    ∃ (a : Addr) (bs : List Addr), σ[i]? = some (some (.ref a)) ∧ H' a = some (.lst (bs.map V.ref)) ∧ bs.length = xss.length ∧ St K M0 H0 M' (upd H' a (.lst ((cs bs).map V.ref))) σ (G.set i (.o2 t yss)) := by
  obtain ⟨A0, h10, h20⟩ := S.sl
  obtain ⟨o, q, a, bs, ef, e, h0, hm, hh, n1, n2, pr⟩ := h10 i _ h
  subst e
  have hl := pr.length
  have old : ∀ x ∈ a :: bs, H x ≠ none := fun x hx => by
    rcases List.mem_cons.mp hx with rfl | hx
    · rw [hh]; simp
    · obtain ⟨j, hj⟩ := List.getElem?_of_mem hx
      obtain ⟨_, _, _, _, vs', hv', _⟩ := paired_get' pr hj
      rw [hv']; simp
  have pa : p ≠ a := fun z => old a (by simp) (by rw [← z]; exact hp)
  have pb : p ∉ bs := fun z => old p (by simp [z]) hp
  obtain ⟨c1, c2⟩ := hc bs hl n2 pb
  have ma' : M' a = none := n.fr a hm (by rw [hh]; simp)
  have hh' := n.ex _ _ hh
  refine ⟨a, bs, q, hh', hl, ?_⟩
  rw [← S.value q]
  refine S.change (fp := a :: cs bs) (nx_upd (S.nx.trans n) h0 ma') (fun _ A h1 h2 l t' nj e' o' x hx hx2 => ?_) (fun A h1 h2 l t' o' nj e' r => ?_) ⟨a, cs bs, rfl, rfl, h0, ma', upd_same, fun z => ?_, c1, ?_⟩
  · obtain ⟨o2, q2, a2, bs2, ef2, e2, _, _, hh2, _⟩ := h1 i _ h
    rw [q] at q2; cases q2; cases e2
    rw [hh] at hh2
    have eb2 : bs = bs2 := by
      have := Option.some.inj hh2
      injection this with this
      exact refs_inj this
    subst eb2
    rcases List.mem_cons.mp hx2 with rfl | hx2
    · exact h2 l i _ _ e' h o' rfl nj x hx (by rw [ef2]; simp)
    · rcases c2 x hx2 with rfl | hx3
      · obtain ⟨_, _, r⟩ := h1 l t' e'
        obtain ⟨_, _, qq⟩ := r.there o' x hx
        rw [hp] at qq
        rcases qq with ⟨_, qq⟩ | ⟨_, _, _, qq⟩ | ⟨_, qq, _⟩ <;> cases qq
      · exact h2 l i _ _ e' h o' rfl nj x hx (by rw [ef2]; simp [hx3])
  · have r' := r.next n
    by_cases ho : t'.own = true
    · obtain ⟨o2, q2, a2, bs2, ef2, e2, _⟩ := h1 i _ h
      rw [q] at q2; cases q2; cases e2
      exact r'.keep (fun x hx => upd_ne (fun z => h2 l i _ _ e' h ho rfl nj x hx (by rw [ef2, z]; simp))) (own_upd hh' (fun _ => by simp))
    · cases t' with
      | un => trivial
      | vl t x => exact r'
      | ow _ _ => exact absurd rfl ho
      | o2 _ _ => exact absurd rfl ho
      | ob _ _ _ _ => exact absurd rfl ho
      | ox _ => exact absurd rfl ho
  · rcases c2 a z with z | z
    · exact pa z.symm
    · exact n1 z
  · have p2 : OwnL K t H0 M' (upd H' a (.lst ((cs bs).map V.ref))) p xs := ⟨S.nx.ex.free hp, mp, vs, by rw [upd_ne pa]; exact hv, hr⟩
    have key2 : ∀ {cs' : List Addr} {yss : List (List α)}, (∀ x ∈ cs', x ≠ a) → Paired (OwnL K t H0 M H) cs' yss → Paired (OwnL K t H0 M' (upd H' a (.lst ((cs bs).map V.ref)))) cs' yss := by
      intro cs' yss kk qq
      induction qq with
      | nil => exact .nil
      | cons r _ ih => exact .cons ((r.next n).keep (upd_ne (kk _ (by simp)))) (ih fun x hx => kk x (by simp [hx]))
    exact hc2 p2 (key2 (fun x hx z => n1 (by rw [← z]; exact hx)) pr)
def upds (M : Hp) (H : Hp) (bs : List Addr) : Hp := fun b => if b ∈ bs then H b else M b
/-- it is frozen, with all its lists -/
theorem St.freeze2 {α : Type} {t : Ty α} {xss : List (List α)} {i : Nat} (S : St K M0 H0 M H σ G) (h : G[i]? = some (.o2 t xss)) :
    ∃ fp : List Addr, (∀ x ∈ fp, M x = none ∧ H0 x = none ∧ ∃ vs, H x = some (.lst vs)) ∧ St K M0 H0 (upds M H fp) H σ (G.set i (.vl (tLst (tLst t)) xss)) := by
  obtain ⟨A0, h10, h20⟩ := S.sl
  obtain ⟨o, q, a, bs, ef, e, h0, hm, hh, n1, n2, p⟩ := h10 i _ h
  subst e
  have th := fun x hx => (h10 i _ h).elim fun o' z => z.2.there rfl x hx
  rw [ef] at th
  have allL : ∀ x ∈ a :: bs, M x = none ∧ H0 x = none ∧ ∃ vs, H x = some (.lst vs) := fun x hx => by
    rcases List.mem_cons.mp hx with rfl | hx
    · exact ⟨hm, h0, _, hh⟩
    · obtain ⟨j, hj⟩ := List.getElem?_of_mem hx
      obtain ⟨_, _, b0, bm, vs', hv', _⟩ := paired_get' p hj
      exact ⟨bm, b0, vs', hv'⟩
  have mm : Same M (upds M H (a :: bs)) := fun b u e => by
    unfold upds
    by_cases z : b ∈ a :: bs
    · rw [(allL b z).1] at e; cases e
    · rw [if_neg z]; exact e
  refine ⟨a :: bs, allL, ?_⟩
  rw [← S.value q]
  refine S.change (fp := []) ⟨S.nx.ex, S.nx.vx.trans mm, fun b u e => ?_, fun b n1 n2 => ?_⟩ (fun h => by cases h) (fun A h1 h2 j t' o' nj e' r => ?_) ⟨.ref a, rfl, a, bs.map V.ref, rfl, ?_, ?_⟩
  · unfold upds at e
    by_cases z : b ∈ a :: bs
    · rw [if_pos z] at e; exact e
    · rw [if_neg z] at e; exact S.sub b u e
  · unfold upds
    by_cases z : b ∈ a :: bs
    · exact absurd (allL b z).2.1 n2
    · rw [if_neg z]; exact S.nx.fr b n1 n2
  · by_cases ho : t'.own = true
    · obtain ⟨o2, q2, a2, bs2, ef2, e2, _, _, hh2, _⟩ := h1 i _ h
      rw [q] at q2; cases q2; cases e2
      rw [hh] at hh2
      have eb2 : bs = bs2 := by
        have := Option.some.inj hh2
        injection this with this
        exact refs_inj this
      subst eb2
      refine r.vw mm (fun x hx => ?_) (fun d p e md => ?_)
      · unfold upds
        rw [if_neg (fun z => h2 j i _ _ e' h ho rfl nj x hx (by rw [ef2]; exact z))]
        exact (r.there ho x hx).2.1
      · unfold upds
        rw [if_neg (fun z => by obtain ⟨_, _, vs, hv⟩ := allL d z; rw [e] at hv; cases hv)]
        exact md
    · cases t' with
      | un => trivial
      | vl t x => obtain ⟨v, r1, r2⟩ := r; exact ⟨v, r1, t.ext mm r2⟩
      | ow _ _ => exact absurd rfl ho
      | o2 _ _ => exact absurd rfl ho
      | ob _ _ _ _ => exact absurd rfl ho
      | ox _ => exact absurd rfl ho
  · unfold upds; rw [if_pos (by simp)]; exact hh
  · have key : ∀ {cs : List Addr} {yss : List (List α)}, (∀ x ∈ cs, x ∈ a :: bs) → Paired (OwnL K t H0 M H) cs yss → Paired ((tLst t).rep K (upds M H (a :: bs))) (cs.map V.ref) yss := by
      intro cs yss kk qq
      induction qq with
      | nil => exact .nil
      | cons r _ ih =>
        obtain ⟨_, _, vs, hv, pr⟩ := r
        exact .cons ⟨_, vs, rfl, by unfold upds; rw [if_pos (kk _ (by simp))]; exact hv, paired_imp (fun _ _ z => t.ext mm z) pr⟩ (ih fun x hx => kk x (by simp [hx]))
    exact key (fun x hx => by simp [hx]) p
/-- the view at hand as the one to start from -/
theorem St.rebase (S : St K M0 H0 M H σ G) : St K M H0 M H σ G :=
  ⟨⟨S.nx.ex, Same.refl _, S.nx.sub, fun _ q _ => q⟩, S.len, S.sl⟩
theorem Nx.unbase {M1 H1 : Hp} (n : Nx M0 H0 M1 H1) (m : Nx M1 H0 M H) : Nx M0 H0 M H := ⟨m.ex, n.vx.trans m.vx, m.sub, fun a q r => m.fr a (n.fr a q r) r⟩
theorem St.unbase {M1 H1 : Hp} (S : St K M1 H0 M H σ G) (n : Nx M0 H0 M1 H1) : St K M0 H0 M H σ G := ⟨n.unbase S.nx, S.len, S.sl⟩
def wipeG (G : List Sl) : List Nat → List Sl
  | [] => G
  | v :: vs => (wipeG G vs).set v .un
theorem St.wipe (S : St K M0 H0 M H σ G) : ∀ vs : List Nat, St K M0 H0 M H (L2.wipe σ vs) (wipeG G vs)
  | [] => S
  | v :: vs => (St.wipe S vs).drop
/-- less is said -/
inductive Sub : List Sl → List Sl → Prop where
  | nil : Sub [] []
  | same {s : Sl} {G G' : List Sl} (h : Sub G G') : Sub (s :: G) (s :: G')
  | un {s : Sl} {G G' : List Sl} (h : Sub G G') : Sub (s :: G) (.un :: G')
theorem Sub.len {G G' : List Sl} (h : Sub G G') : G.length = G'.length := by
  induction h with
  | nil => rfl
  | same _ ih => simp [ih]
  | un _ ih => simp [ih]
theorem Sub.get {G G' : List Sl} (h : Sub G G') : ∀ (i : Nat) (s : Sl), G'[i]? = some s → (s = Sl.un ∧ ∃ t, G[i]? = some t) ∨ G[i]? = some s := by
  induction h with
  | nil => intro i s e; simp at e
  | same _ ih =>
    intro i s e
    cases i with
    | zero => exact .inr (by simpa using e)
    | succ i => simpa using ih i s (by simpa using e)
  | un _ ih =>
    intro i s e
    cases i with
    | zero => exact .inl ⟨by simpa using e.symm, _, rfl⟩
    | succ i => simpa using ih i s (by simpa using e)
theorem Sub.refl : ∀ G : List Sl, Sub G G
  | [] => .nil
  | _ :: G => .same (Sub.refl G)
theorem St.weak {G' : List Sl} (S : St K M0 H0 M H σ G) (h : Sub G G') : St K M0 H0 M H σ G' := by
  obtain ⟨A, h1, h2⟩ := S.sl
  refine ⟨S.nx, S.len.trans h.len, A, fun i s e => ?_, fun i j s t e1 e2 o1 o2 => ?_⟩
  · rcases h.get i s e with ⟨rfl, t, q⟩ | q
    · obtain ⟨o, q', _⟩ := h1 i t q
      exact ⟨o, q', trivial⟩
    · exact h1 i s q
  · rcases h.get i s e1 with ⟨rfl, _⟩ | q1
    · cases o1
    · rcases h.get j t e2 with ⟨rfl, _⟩ | q2
      · cases o2
      · exact h2 i j s t q1 q2 o1 o2
end
end TL

namespace TL
open PySem L2

/-! ### judgements -/
section
variable {α β γ : Type}
/-- e is worth x in the context G -/
structure E (X : Cx) (G : List Sl) (e : Expr) (t : Ty α) (x : α) : Prop where
  run : ∀ {M0 H0 M H : Hp} {σ : L2.St}, St X.K M0 H0 M H σ G → ∀ (Q : VK), (∀ v M' H', Nx M H M' H' → t.rep X.K M' v x → Q v H') → wE X e σ H Q
/-- a test -/
structure T (X : Cx) (G : List Sl) (e : Expr) (b : Bool) : Prop where
  run : ∀ {M0 H0 M H : Hp} {σ : L2.St}, St X.K M0 H0 M H σ G → ∀ (Q : Bool → Hp → Prop), (∀ M' H', Nx M H M' H' → Q b H') → wT X e σ H Q
def wW (X : Cx) (e : Expr) : TT := fun σ H Q => ∃ te, PW X e te ∧ te σ H Q
theorem pw_w {X : Cx} {e : Expr} : PW X e (wW X e) := ⟨fun wh pins s σ H Q I ⟨_, p, h⟩ => p.run wh pins s σ H Q I h⟩
structure TW (X : Cx) (G : List Sl) (e : Expr) (b : Bool) : Prop where
  run : ∀ {M0 H0 M H : Hp} {σ : L2.St}, St X.K M0 H0 M H σ G → ∀ (Q : Bool → Hp → Prop), (∀ M' H', Nx M H M' H' → Q b H') → wW X e σ H Q
inductive Reps (K : Fg) (M : Hp) : List V → List Sl → Prop where
  | nil : Reps K M [] []
  | cons {α : Type} {t : Ty α} {x : α} {v : V} {vs : List V} {ss : List Sl} (h : t.rep K M v x) (r : Reps K M vs ss) : Reps K M (v :: vs) (.vl t x :: ss)
/-- arguments -/
structure EA (X : Cx) (G : List Sl) (es : List Expr) (ss : List Sl) : Prop where
  run : ∀ {M0 H0 M H : Hp} {σ : L2.St}, St X.K M0 H0 M H σ G → ∀ (Q : List V → Hp → Prop), (∀ vs M' H', Nx M H M' H' → Reps X.K M' vs ss → Q vs H') → wA X es σ H Q
/-- items of one type -/
structure EH (X : Cx) (G : List Sl) (es : List Expr) (t : Ty α) (xs : List α) : Prop where
  run : ∀ {M0 H0 M H : Hp} {σ : L2.St}, St X.K M0 H0 M H σ G → ∀ (Q : List V → Hp → Prop), (∀ vs M' H', Nx M H M' H' → Paired (t.rep X.K M') vs xs → Q vs H') → wA X es σ H Q
/-- a new list, not yet frozen -/
structure EL (X : Cx) (G : List Sl) (e : Expr) (t : Ty α) (xs : List α) : Prop where
  run : ∀ {M0 H0 M H : Hp} {σ : L2.St}, St X.K M0 H0 M H σ G → ∀ (Q : VK), (∀ p M' H' vs, Nx M H M' H' → H p = none → M' p = none → H' p = some (.lst vs) → Paired (t.rep X.K M') vs xs → Q (.ref p) H') → wE X e σ H Q
end

section
variable {α β γ : Type} {X : Cx} {G : List Sl} {a b c e : Expr} {es rest : List Expr} {s : Ty α} {t : Ty β} {u : Ty γ} {x : α} {y : β} {z : γ} {pos : Pos}

theorem E.is {x' : α} (h : E X G e s x) (q : x = x') : E X G e s x' := q ▸ h
theorem E.as (h : E X G e s x) (q : ∀ M v, s.rep X.K M v x → t.rep X.K M v y) : E X G e t y := ⟨fun S Q k => h.run S Q fun v M' H' n r => k v M' H' n (q M' v r)⟩
theorem E.weak {G' : List Sl} (h : E X G' e s x) (w : Sub G G') : E X G e s x := ⟨fun S Q k => h.run (S.weak w) Q k⟩
theorem EL.toE {xs : List α} (h : EL X G e s xs) : E X G e (tLst s) xs := ⟨fun S Q k => h.run S Q fun p M' H' vs n hp mp hh r =>
  k (.ref p) (upd M' p (.lst vs)) H' ⟨n.ex, n.vx.trans (same_new mp), fun b o q => by
    by_cases z : b = p
    · subst z; rw [upd_same] at q; cases q; exact hh
    · rw [upd_ne z] at q; exact n.sub b o q, fun b n1 n2 => by
    rw [upd_ne (fun z => n2 (by rw [z]; exact hp))]; exact n.fr b n1 n2⟩ ⟨p, vs, rfl, upd_same, paired_imp (fun _ _ q => s.ext (same_new mp) q) r⟩⟩

/-! ### names, constants -/
theorem e_var (i : Nat) {n : Str} (h : G[i]? = some (.vl s x) := by rfl) (hN : X.N[i]? = some n := by rfl)
    (hv : Vis X.env.scope n := by first | exact Or.inl rfl | exact Or.inr (Or.inl rfl) | exact Or.inr (Or.inr rfl)) (hd : (n == ("__debug__" : Str)) = false := by decide)
    (hcd : (n == ("__classdict__" : Str)) = false := by decide) : E X G (.Name n pos) s x := ⟨fun {M0 H0 M H σ} S Q k => by
  obtain ⟨v, e, r⟩ := S.get h
  exact ⟨_, pe_var hN hv hd hcd, v, e, k v M H (Nx.refl S.sub) r⟩⟩
theorem e_int {i : Int} {j : Nat} : E X G (.Constant (.int i) j pos) tI i := ⟨fun {M0 H0 M H σ} S Q k => ⟨_, pe_int, k _ M H (Nx.refl S.sub) rfl⟩⟩
theorem e_bl {i : Bool} {j : Nat} : E X G (.Constant (.bool i) j pos) tB i := ⟨fun {M0 H0 M H σ} S Q k => ⟨_, pe_bl, k _ M H (Nx.refl S.sub) rfl⟩⟩
theorem e_non {j : Nat} : E X G (.Constant .none j pos) tN () := ⟨fun {M0 H0 M H σ} S Q k => ⟨_, pe_non, k _ M H (Nx.refl S.sub) rfl⟩⟩
theorem e_str {i : Str} {j : Nat} : E X G (.Constant (.str i) j pos) tS i := ⟨fun {M0 H0 M H σ} S Q k => ⟨_, pe_str, k _ M H (Nx.refl S.sub) rfl⟩⟩
/-- a class as a value -/
def tC : Ty V := ⟨fun _ _ v x => v = x, fun _ h => h⟩
theorem e_ty {n : Str} {nm : String} (hm : X.mg n = none) (hv : bootBuiltins n = some (.type nm) := by decide +kernel) (hg : Gl X n := by rfl) (hn : n ≠ "__name__" := by decide) (hd : (n == ("__debug__" : Str)) = false := by decide) : E X G (.Name n pos) tC (.ty nm) :=
  ⟨fun {M0 H0 M H σ} S Q k => ⟨_, pe_bltn hg hm hv (show RelV (.ty nm) (.type nm) from rfl) hn hd, k _ M H (Nx.refl S.sub) rfl⟩⟩
theorem e_cls {n : Str} {C : Addr} (hm : X.mg n = some (.ref C)) (hg : Gl X n := by rfl) (hd : (n == ("__debug__" : Str)) = false := by decide) : E X G (.Name n pos) tC (.ref C) :=
  ⟨fun {M0 H0 M H σ} S Q k => ⟨_, pe_glob hg hm (show RelV (.ref C) (.ref C) from rfl) hd, k _ M H (Nx.refl S.sub) rfl⟩⟩

/-! ### operators -/
theorem e_op2 {op : Operator} {r : R2} (ho : OpR X (binaryOp op) r) (ha : E X G a s x) (hb : E X G b t y)
    (hr : ∀ (M H : Hp) (v w : V) (Q : VK), Same M H → s.rep X.K M v x → t.rep X.K M w y → (∀ q M' H', Nx M H M' H' → u.rep X.K M' q z → Q q H') → r v w H Q) : E X G (.BinOp a op b pos) u z := ⟨fun S Q k =>
  ⟨_, pe_op ho pe_w pe_w, ha.run S _ fun v M1 H1 n1 r1 => hb.run (S.next n1) _ fun w M2 H2 n2 r2 => hr M2 H2 v w Q n2.sub (s.ext n2.vx r1) r2 fun q M3 H3 n3 r3 => k q M3 H3 ((n1.trans n2).trans n3) r3⟩⟩
/-- .. that makes a new list -/
theorem el_op2 {op : Operator} {r : R2} {zs : List γ} (ho : OpR X (binaryOp op) r) (ha : E X G a s x) (hb : E X G b t y)
    (hr : ∀ (M H : Hp) (v w : V) (Q : VK), Same M H → s.rep X.K M v x → t.rep X.K M w y → (∀ p M' H' vs, Nx M H M' H' → H p = none → M' p = none → H' p = some (.lst vs) → Paired (u.rep X.K M') vs zs → Q (.ref p) H') → r v w H Q) : EL X G (.BinOp a op b pos) u zs := ⟨fun {M0 H0 M H σ} S Q k =>
  ⟨_, pe_op ho pe_w pe_w, ha.run S _ fun v M1 H1 n1 r1 => hb.run (S.next n1) _ fun w M2 H2 n2 r2 => hr M2 H2 v w Q n2.sub (s.ext n2.vx r1) r2 fun p M3 H3 vs n3 hp mp hh r3 => k p M3 H3 vs ((n1.trans n2).trans n3) ((n1.trans n2).ex.free hp) mp hh r3⟩⟩
theorem e_un {op : UnaryOp} {r : V → Hp → VK → Prop} (ho : UnR X (unaryOp op) r) (ha : E X G a s x)
    (hr : ∀ (M H : Hp) (v : V) (Q : VK), Same M H → s.rep X.K M v x → (∀ q M' H', Nx M H M' H' → u.rep X.K M' q z → Q q H') → r v H Q) : E X G (.UnaryOp op a pos) u z := ⟨fun S Q k =>
  ⟨_, pe_un ho pe_w, ha.run S _ fun v M1 H1 n1 r1 => hr M1 H1 v Q n1.sub r1 fun q M3 H3 n3 r3 => k q M3 H3 (n1.trans n3) r3⟩⟩
variable {i j : Int}
theorem e_add (ha : E X G a tI i) (hb : E X G b tI j) : E X G (.BinOp a .Add b pos) tI (i + j) := e_op2 op_add ha hb fun M H v w Q m h1 h2 k => ⟨i, j, h1, h2, k _ M H (Nx.refl m) rfl⟩
theorem e_sub (ha : E X G a tI i) (hb : E X G b tI j) : E X G (.BinOp a .Sub b pos) tI (i - j) := e_op2 op_sub ha hb fun M H v w Q m h1 h2 k => ⟨i, j, h1, h2, k _ M H (Nx.refl m) rfl⟩
theorem e_mulL (ha : E X G a tI i) (hb : E X G b tI j) (h : -18446744073709551616 < i ∧ i < 18446744073709551616) : E X G (.BinOp a .Mult b pos) tI (i * j) := e_op2 op_mul ha hb fun M H v w Q m h1 h2 k => ⟨i, j, h1, h2, .inl h, k _ M H (Nx.refl m) rfl⟩
theorem e_mulR (ha : E X G a tI i) (hb : E X G b tI j) (h : -18446744073709551616 < j ∧ j < 18446744073709551616) : E X G (.BinOp a .Mult b pos) tI (i * j) := e_op2 op_mul ha hb fun M H v w Q m h1 h2 k => ⟨i, j, h1, h2, .inr h, k _ M H (Nx.refl m) rfl⟩
theorem e_mod (ha : E X G a tI i) (hb : E X G b tI j) (h : 0 < j) : E X G (.BinOp a .Mod b pos) tI (i % j) := e_op2 op_mod ha hb fun M H v w Q m h1 h2 k => ⟨i, j, h1, h2, h, k _ M H (Nx.refl m) rfl⟩
theorem e_div (ha : E X G a tI i) (hb : E X G b tI j) (h : 0 < j ∧ j < 1073741824) : E X G (.BinOp a .FloorDiv b pos) tI (i / j) := e_op2 op_fdiv ha hb fun M H v w Q m h1 h2 k => ⟨i, j, h1, h2, h, k _ M H (Nx.refl m) rfl⟩
theorem e_divW (ha : E X G a tI i) (hb : E X G b tI j) (h : 0 < j ∧ j.natAbs < 2 ^ 9000) : E X G (.BinOp a .FloorDiv b pos) tI (i / j) := e_op2 op_fdivW ha hb fun M H v w Q m h1 h2 k => ⟨i, j, h1, h2, wide_div h.1 h.2 (by decide) (by decide), k _ M H (Nx.refl m) rfl⟩
theorem e_pow (ha : E X G a tI i) (hb : E X G b tI j) (h : 0 ≤ j ∧ j ≤ 1000000 ∧ i.natAbs < 2 ^ 64) : E X G (.BinOp a .Pow b pos) tI (i ^ j.toNat) := e_op2 op_pow ha hb fun M H v w Q m h1 h2 k => ⟨i, j, h1, h2, h, k _ M H (Nx.refl m) rfl⟩
theorem e_neg (ha : E X G a tI i) : E X G (.UnaryOp .USub a pos) tI (-i) := e_un un_neg ha fun M H v Q m h1 k => ⟨i, h1, k _ M H (Nx.refl m) rfl⟩
/-- a comparison, as a value and as a test -/
theorem e_cmp {op : CmpOp} {r : R2} {d : Bool} (ho : OpR X (compareOp op) r) (ha : E X G a s x) (hb : E X G b t y)
    (hr : ∀ (M H : Hp) (v w : V) (Q : VK), Same M H → s.rep X.K M v x → t.rep X.K M w y → (∀ M' H', Nx M H M' H' → Q (.bl d) H') → r v w H Q) (hm : behindInMarks op b = false) : E X G (.Compare a [op] [b] pos) tB d := ⟨fun S Q k =>
  ⟨_, pe_cmpR ho pe_w pe_w hm, ha.run S _ fun v M1 H1 n1 r1 => hb.run (S.next n1) _ fun w M2 H2 n2 r2 => hr M2 H2 v w Q n2.sub (s.ext n2.vx r1) r2 fun M3 H3 n3 => k _ M3 H3 ((n1.trans n2).trans n3) rfl⟩⟩
theorem t_cmp {op : CmpOp} {r : R2} {d : Bool} (ho : OpR X (compareOp op) r) (ha : E X G a s x) (hb : E X G b t y)
    (hr : ∀ (M H : Hp) (v w : V) (Q : VK), Same M H → s.rep X.K M v x → t.rep X.K M w y → (∀ M' H', Nx M H M' H' → Q (.bl d) H') → r v w H Q) (hm : behindInMarks op b = false) : T X G (.Compare a [op] [b] pos) d := ⟨fun S Q k =>
  ⟨_, pt_cmpR ho pe_w pe_w hm, ha.run S _ fun v M1 H1 n1 r1 => hb.run (S.next n1) _ fun w M2 H2 n2 r2 => hr M2 H2 v w _ n2.sub (s.ext n2.vx r1) r2 fun M3 H3 n3 => ⟨d, rfl, k M3 H3 ((n1.trans n2).trans n3)⟩⟩⟩
/-- what a comparison of values says -/
structure CmpV (X : Cx) (op : CmpOp) (s : Ty α) (t : Ty β) (x : α) (y : β) (d : Bool) : Prop where
  r : ∃ r : R2, OpR X (compareOp op) r ∧ ∀ (M H : Hp) (v w : V) (Q : VK), Same M H → s.rep X.K M v x → t.rep X.K M w y → (∀ M' H', Nx M H M' H' → Q (.bl d) H') → r v w H Q
theorem e_cv {op : CmpOp} {d : Bool} (ha : E X G a s x) (hb : E X G b t y) (c : CmpV X op s t x y d) (hm : behindInMarks op b = false := by first | exact nomark _ | rfl) : E X G (.Compare a [op] [b] pos) tB d := by
  obtain ⟨r, ho, hr⟩ := c.r
  exact e_cmp ho ha hb hr hm
theorem t_cv {op : CmpOp} {d : Bool} (ha : E X G a s x) (hb : E X G b t y) (c : CmpV X op s t x y d) (hm : behindInMarks op b = false := by first | exact nomark _ | rfl) : T X G (.Compare a [op] [b] pos) d := by
  obtain ⟨r, ho, hr⟩ := c.r
  exact t_cmp ho ha hb hr hm
theorem cv_lt : CmpV X .Lt tI tI i j (decide (i < j)) := ⟨_, op_lt, fun M H v w Q m h1 h2 k => ⟨i, j, h1, h2, k M H (Nx.refl m)⟩⟩
theorem cv_le : CmpV X .LtE tI tI i j (decide (i ≤ j)) := ⟨_, op_le, fun M H v w Q m h1 h2 k => ⟨i, j, h1, h2, k M H (Nx.refl m)⟩⟩
theorem cv_gt : CmpV X .Gt tI tI i j (decide (j < i)) := ⟨_, op_gt, fun M H v w Q m h1 h2 k => ⟨i, j, h1, h2, k M H (Nx.refl m)⟩⟩
theorem cv_ge : CmpV X .GtE tI tI i j (decide (j ≤ i)) := ⟨_, op_ge, fun M H v w Q m h1 h2 k => ⟨i, j, h1, h2, k M H (Nx.refl m)⟩⟩
theorem dec_vint : decide (V.int i = V.int j) = decide (i = j) := by
  by_cases h : i = j
  · subst h; simp
  · rw [decide_eq_false h, decide_eq_false]; intro q; cases q; exact h rfl
theorem dec_vstr {i j : Str} : decide (V.str i = V.str j) = decide (i = j) := by
  by_cases h : i = j
  · subst h; simp
  · rw [decide_eq_false h, decide_eq_false]; intro q; cases q; exact h rfl
theorem dec_vbl {i j : Bool} : decide (V.bl i = V.bl j) = decide (i = j) := by
  by_cases h : i = j
  · subst h; simp
  · rw [decide_eq_false h, decide_eq_false]; intro q; cases q; exact h rfl
theorem cv_eqI : CmpV X .Eq tI tI i j (decide (i = j)) := ⟨_, op_eq, fun M H v w Q m h1 h2 k => by
  cases h1; cases h2; exact ⟨rfl, by rw [dec_vint]; exact k M H (Nx.refl m)⟩⟩
theorem cv_neI : CmpV X .NotEq tI tI i j (!decide (i = j)) := ⟨_, op_ne, fun M H v w Q m h1 h2 k => by
  cases h1; cases h2; exact ⟨rfl, by rw [dec_vint]; exact k M H (Nx.refl m)⟩⟩
theorem cv_eqS {i j : Str} : CmpV X .Eq tS tS i j (decide (i = j)) := ⟨_, op_eq, fun M H v w Q m h1 h2 k => by
  cases h1; cases h2; exact ⟨rfl, by rw [dec_vstr]; exact k M H (Nx.refl m)⟩⟩
theorem cv_neS {i j : Str} : CmpV X .NotEq tS tS i j (!decide (i = j)) := ⟨_, op_ne, fun M H v w Q m h1 h2 k => by
  cases h1; cases h2; exact ⟨rfl, by rw [dec_vstr]; exact k M H (Nx.refl m)⟩⟩
theorem cv_isN {s : Ty α} {x : α} {d : Bool} (h : ∀ M v, s.rep X.K M v x → decide (v = V.non) = d) : CmpV X .Is s tN x () d := ⟨_, op_isN, fun M H v w Q m h1 h2 k => by
  cases h2; exact ⟨rfl, by rw [h M v h1]; exact k M H (Nx.refl m)⟩⟩
theorem cv_isnotN {s : Ty α} {x : α} {d : Bool} (h : ∀ M v, s.rep X.K M v x → decide (v = V.non) = d) : CmpV X .IsNot s tN x () (!d) := ⟨_, op_notN, fun M H v w Q m h1 h2 k => by
  cases h2; exact ⟨rfl, by rw [h M v h1]; exact k M H (Nx.refl m)⟩⟩
/-- two data at any depth -/
theorem cv_eqD {k : Nat} (hr : Room k X.A) {d e : PyData} (sd : SeqAt.shaped d = true) (se : SeqAt.shaped e = true) (hs : ∀ M v, s.rep X.K M v x → Dp X.K M v d) (ht : ∀ M v, t.rep X.K M v y → Dp X.K M v e) : CmpV X .Eq s t x y (PyData.eqv d e) :=
  ⟨_, op_eqD hr.units, fun M H v w Q m h1 h2 k => ⟨d, e, dp_ext m d v (hs M v h1), dp_ext m e w (ht M w h2), sd, se, k M H (Nx.refl m)⟩⟩
theorem cv_neD {k : Nat} (hr : Room k X.A) {d e : PyData} (sd : SeqAt.shaped d = true) (se : SeqAt.shaped e = true) (hs : ∀ M v, s.rep X.K M v x → Dp X.K M v d) (ht : ∀ M v, t.rep X.K M v y → Dp X.K M v e) : CmpV X .NotEq s t x y (!PyData.eqv d e) :=
  ⟨_, op_neD hr.units, fun M H v w Q m h1 h2 k => ⟨d, e, dp_ext m d v (hs M v h1), dp_ext m e w (ht M w h2), sd, se, k M H (Nx.refl m)⟩⟩
/-- a < b < c -/
theorem e_chain {op op' : CmpOp} {d d' : Bool} (ha : E X G a s x) (hb : E X G b t y) (hc : E X G c u z) (c1 : CmpV X op s t x y d) (c2 : d = true → CmpV X op' t u y z d') (h1 : ∀ r r', OpR X (compareOp op) r → OpR X (compareOp op') r' → PE X (.Compare a [op, op'] [b, c] pos) (tChain r r' (wE X a) (wE X b) (wE X c)) := by
    intro r r' h h'; exact pe_chain h h' pe_w pe_w pe_w) (r0 : ∃ r, OpR X (compareOp op') r) : E X G (.Compare a [op, op'] [b, c] pos) tB (d && d') := ⟨fun S Q k => by
  obtain ⟨r, ho, hr⟩ := c1.r
  cases d with
  | true =>
    obtain ⟨r', ho', hr'⟩ := (c2 rfl).r
    refine ⟨_, h1 r r' ho ho', ha.run S _ fun v M1 H1 n1 r1 => hb.run (S.next n1) _ fun w M2 H2 n2 r2 => hr M2 H2 v w _ n2.sub (s.ext n2.vx r1) r2 fun M3 H3 n3 => ⟨true, rfl, ?_⟩⟩
    rw [if_pos rfl]
    exact hc.run (S.next ((n1.trans n2).trans n3)) _ fun q M4 H4 n4 r4 => hr' M4 H4 w q Q n4.sub (t.ext (n3.vx.trans n4.vx) r2) r4 fun M5 H5 n5 => k _ M5 H5 ((((n1.trans n2).trans n3).trans n4).trans n5) rfl
  | false =>
    obtain ⟨r', ho'⟩ := r0
    refine ⟨_, h1 r r' ho ho', ha.run S _ fun v M1 H1 n1 r1 => hb.run (S.next n1) _ fun w M2 H2 n2 r2 => hr M2 H2 v w _ n2.sub (s.ext n2.vx r1) r2 fun M3 H3 n3 => ⟨false, rfl, ?_⟩⟩
    rw [if_neg (by decide)]
    exact k _ M3 H3 ((n1.trans n2).trans n3) rfl⟩
theorem t_chain {op op' : CmpOp} {d d' : Bool} (ha : E X G a s x) (hb : E X G b t y) (hc : E X G c u z) (c1 : CmpV X op s t x y d) (c2 : d = true → CmpV X op' t u y z d') (h1 : ∀ r r', OpR X (compareOp op) r → OpR X (compareOp op') r' → PT X (.Compare a [op, op'] [b, c] pos) (tTest (tChain r r' (wE X a) (wE X b) (wE X c))) := by
    intro r r' h h'; exact pt_chain h h' pe_w pe_w pe_w) (r0 : ∃ r, OpR X (compareOp op') r) : T X G (.Compare a [op, op'] [b, c] pos) (d && d') := ⟨fun S Q k => by
  obtain ⟨r, ho, hr⟩ := c1.r
  cases d with
  | true =>
    obtain ⟨r', ho', hr'⟩ := (c2 rfl).r
    refine ⟨_, h1 r r' ho ho', ha.run S _ fun v M1 H1 n1 r1 => hb.run (S.next n1) _ fun w M2 H2 n2 r2 => hr M2 H2 v w _ n2.sub (s.ext n2.vx r1) r2 fun M3 H3 n3 => ⟨true, rfl, ?_⟩⟩
    rw [if_pos rfl]
    exact hc.run (S.next ((n1.trans n2).trans n3)) _ fun q M4 H4 n4 r4 => hr' M4 H4 w q _ n4.sub (t.ext (n3.vx.trans n4.vx) r2) r4 fun M5 H5 n5 => ⟨_, rfl, k M5 H5 ((((n1.trans n2).trans n3).trans n4).trans n5)⟩
  | false =>
    obtain ⟨r', ho'⟩ := r0
    refine ⟨_, h1 r r' ho ho', ha.run S _ fun v M1 H1 n1 r1 => hb.run (S.next n1) _ fun w M2 H2 n2 r2 => hr M2 H2 v w _ n2.sub (s.ext n2.vx r1) r2 fun M3 H3 n3 => ⟨false, rfl, ?_⟩⟩
    rw [if_neg (by decide)]
    exact ⟨_, rfl, k M3 H3 ((n1.trans n2).trans n3)⟩⟩

/-! ### truth -/
variable {p q : Bool}
theorem t_val (h : E X G e tB p) (he : ∀ whole, isTrue e X.env whole = (do let v ← whole; standAt e.pos; holding [v] (truthy v)) := by intro _; rfl) : T X G e p := ⟨fun S Q k =>
  ⟨_, pt_val pe_w he, h.run S _ fun v M1 H1 n1 r1 => ⟨p, r1, k M1 H1 n1⟩⟩⟩
theorem TW.toT (h : TW X G e p) : T X G e p := ⟨fun S Q k => ⟨_, pw_w.pt, h.run S Q k⟩⟩
theorem w_and1 (h : T X G a p) : TW X G (.BoolOp .And [a] pos) p := ⟨fun S Q k => ⟨_, pw_and1 pt_w, h.run S Q k⟩⟩
theorem w_or1 (h : T X G a p) : TW X G (.BoolOp .Or [a] pos) p := ⟨fun S Q k => ⟨_, pw_or1 pt_w, h.run S Q k⟩⟩
theorem w_and (h : T X G a p) (h2 : p = true → TW X G (.BoolOp .And (b :: rest) pos) q) : TW X G (.BoolOp .And (a :: b :: rest) pos) (p && q) := ⟨fun S Q k =>
  ⟨_, pw_and pt_w pw_w, h.run S _ fun M1 H1 n1 => by
    cases p with
    | true => rw [if_pos rfl]; exact (h2 rfl).run (S.next n1) _ fun M2 H2 n2 => k M2 H2 (n1.trans n2)
    | false => rw [if_neg (by decide)]; exact k M1 H1 n1⟩⟩
theorem w_or (h : T X G a p) (h2 : p = false → TW X G (.BoolOp .Or (b :: rest) pos) q) : TW X G (.BoolOp .Or (a :: b :: rest) pos) (p || q) := ⟨fun S Q k =>
  ⟨_, pw_or pt_w pw_w, h.run S _ fun M1 H1 n1 => by
    cases p with
    | false => rw [if_neg (by decide)]; exact (h2 rfl).run (S.next n1) _ fun M2 H2 n2 => k M2 H2 (n1.trans n2)
    | true => rw [if_pos rfl]; exact k M1 H1 n1⟩⟩
theorem t_not (h : T X G a p) : T X G (.UnaryOp .Not a pos) (!p) := ⟨fun S Q k => ⟨_, pt_not pt_w, h.run S _ fun M1 H1 n1 => k M1 H1 n1⟩⟩
theorem e_one {op} (h : E X G a tB p) : E X G (.BoolOp op [a] pos) tB p := ⟨fun S Q k => ⟨_, pe_one pe_w, h.run S Q k⟩⟩
theorem e_and (h : E X G a tB p) (h2 : p = true → E X G (.BoolOp .And (b :: rest) pos) tB q) : E X G (.BoolOp .And (a :: b :: rest) pos) tB (p && q) := ⟨fun S Q k =>
  ⟨_, pe_and pe_w pe_w, h.run S _ fun v M1 H1 n1 r1 => ⟨p, r1, by
    cases p with
    | true => rw [if_pos rfl]; exact (h2 rfl).run (S.next n1) _ fun v M2 H2 n2 r2 => k v M2 H2 (n1.trans n2) r2
    | false => rw [if_neg (by decide)]; exact k _ M1 H1 n1 rfl⟩⟩⟩
theorem e_or (h : E X G a tB p) (h2 : p = false → E X G (.BoolOp .Or (b :: rest) pos) tB q) : E X G (.BoolOp .Or (a :: b :: rest) pos) tB (p || q) := ⟨fun S Q k =>
  ⟨_, pe_or pe_w pe_w, h.run S _ fun v M1 H1 n1 r1 => ⟨p, r1, by
    cases p with
    | false => rw [if_neg (by decide)]; exact (h2 rfl).run (S.next n1) _ fun v M2 H2 n2 r2 => k v M2 H2 (n1.trans n2) r2
    | true => rw [if_pos rfl]; exact k _ M1 H1 n1 rfl⟩⟩⟩
theorem e_not (h : E X G a tB p) : E X G (.UnaryOp .Not a pos) tB (!p) := ⟨fun S Q k => ⟨_, pe_not pe_w, h.run S _ fun v M1 H1 n1 r1 => ⟨p, r1, k _ M1 H1 n1 rfl⟩⟩⟩
theorem e_if {x y : α} (h : T X G c p) (h1 : p = true → E X G a s x) (h2 : p = false → E X G b s y) : E X G (.IfExp c a b pos) s (if p = true then x else y) := ⟨fun S Q k =>
  ⟨_, pe_ifExp pt_w pe_w pe_w, h.run S _ fun M1 H1 n1 => by
    cases p with
    | true => rw [if_pos rfl] at *; exact (h1 rfl).run (S.next n1) _ fun v M2 H2 n2 r2 => k v M2 H2 (n1.trans n2) r2
    | false => rw [if_neg (by decide)] at *; exact (h2 rfl).run (S.next n1) _ fun v M2 H2 n2 r2 => k v M2 H2 (n1.trans n2) r2⟩⟩

/-! ### arguments, displays -/
variable {ss : List Sl} {xs ys : List α}
theorem ea_nil : EA X G [] [] := ⟨fun {M0 H0 M H σ} S Q k => ⟨_, pa_nil, k [] M H (Nx.refl S.sub) .nil⟩⟩
theorem reps_ext {K : Fg} {M M' : Hp} (e : Same M M') : ∀ {vs : List V} {ss : List Sl}, Reps K M vs ss → Reps K M' vs ss
  | _, _, .nil => .nil
  | _, _, .cons h t => .cons (Ty.ext _ e h) (reps_ext e t)
theorem ea_cons (h : E X G e s x) (hr : EA X G es ss) (hs : starEach (e :: es) X.env = (false, eval e X.env) :: starEach es X.env := by rfl) : EA X G (e :: es) (.vl s x :: ss) := ⟨fun S Q k =>
  ⟨_, pa_cons pe_w pa_w hs, h.run S _ fun v M1 H1 n1 r1 => hr.run (S.next n1) _ fun vs M2 H2 n2 r2 => k _ M2 H2 (n1.trans n2) (.cons (s.ext n2.vx r1) r2)⟩⟩
theorem eh_nil : EH X G [] s [] := ⟨fun {M0 H0 M H σ} S Q k => ⟨_, pa_nil, k [] M H (Nx.refl S.sub) .nil⟩⟩
theorem eh_cons (h : E X G e s x) (hr : EH X G es s xs) (hs : starEach (e :: es) X.env = (false, eval e X.env) :: starEach es X.env := by rfl) : EH X G (e :: es) s (x :: xs) := ⟨fun S Q k =>
  ⟨_, pa_cons pe_w pa_w hs, h.run S _ fun v M1 H1 n1 r1 => hr.run (S.next n1) _ fun vs M2 H2 n2 r2 => k _ M2 H2 (n1.trans n2) (.cons (s.ext n2.vx r1) r2)⟩⟩
theorem paired_same {F G' : V → α → Prop} {vs : List V} {xs : List α} (h : Paired F vs xs) (f : ∀ a b, F a b → G' a b) : Paired G' vs xs := paired_imp f h
theorem e_tup {n : Nat} (h : EH X G es s xs) (hl : xs.length ≤ 1000000 := by first | decide | simp) : E X G (.Tuple es n pos) (tTup s) xs := ⟨fun S Q k =>
  ⟨_, pe_tup pa_w, h.run S _ fun vs M1 H1 n1 r1 => ⟨by rw [r1.length]; exact Nat.le_trans hl (by decide), fun p hp =>
    k _ _ _ (n1.trans (Nx.new n1.sub hp)) ⟨p, vs, rfl, .inl (.inl upd_same), paired_imp (fun _ _ q => s.ext (same_new (same_none n1.sub hp)) q) r1⟩⟩⟩⟩
theorem el_lst (h : EH X G es s xs) (hl : xs.length ≤ 1000000 := by first | decide | simp) : EL X G (.List es pos) s xs := ⟨fun {M0 H0 M H σ} S Q k =>
  ⟨_, pe_lst pa_w, h.run S _ fun vs M1 H1 n1 r1 => ⟨by rw [r1.length]; exact Nat.le_trans hl (by decide), fun p hp =>
    k p M1 _ vs ⟨n1.ex.trans (same_new hp), n1.vx, n1.sub.trans (same_new hp), n1.fr⟩ (n1.ex.free hp) (same_none n1.sub hp) upd_same r1⟩⟩⟩
theorem e_p2 {n : Nat} (ha : E X G a s x) (hb : E X G b t y) (hs : starEach [a, b] X.env = (false, eval a X.env) :: starEach [b] X.env := by rfl) (hs2 : starEach [b] X.env = (false, eval b X.env) :: starEach [] X.env := by rfl) : E X G (.Tuple [a, b] n pos) (tP2 s t) (x, y) := ⟨fun S Q k =>
  ⟨_, pe_tup (pa_cons pe_w (pa_cons pe_w pa_nil hs2) hs), ha.run S _ fun v M1 H1 n1 r1 => hb.run (S.next n1) _ fun w M2 H2 n2 r2 => ⟨by show 2 ≤ sizeLine; decide, fun p hp => by
    have nn := Nx.new (o := .tup [v, w]) n2.sub hp
    exact k _ _ _ ((n1.trans n2).trans nn) ⟨p, v, w, rfl, .inl (.inl upd_same), s.ext (n2.vx.trans nn.vx) r1, t.ext nn.vx r2⟩⟩⟩⟩
theorem e_p3 {n : Nat} (ha : E X G a s x) (hb : E X G b t y) (hc : E X G c u z) (hs : starEach [a, b, c] X.env = (false, eval a X.env) :: starEach [b, c] X.env := by rfl) (hs2 : starEach [b, c] X.env = (false, eval b X.env) :: starEach [c] X.env := by rfl) (hs3 : starEach [c] X.env = (false, eval c X.env) :: starEach [] X.env := by rfl) : E X G (.Tuple [a, b, c] n pos) (tP3 s t u) (x, y, z) := ⟨fun S Q k =>
  ⟨_, pe_tup (pa_cons pe_w (pa_cons pe_w (pa_cons pe_w pa_nil hs3) hs2) hs), ha.run S _ fun v M1 H1 n1 r1 => hb.run (S.next n1) _ fun w M2 H2 n2 r2 => hc.run (S.next (n1.trans n2)) _ fun w3 M3 H3 n3 r3 => ⟨by show 3 ≤ sizeLine; decide, fun p hp => by
    have nn := Nx.new (o := .tup [v, w, w3]) n3.sub hp
    exact k _ _ _ (((n1.trans n2).trans n3).trans nn) ⟨p, v, w, w3, rfl, .inl (.inl upd_same), s.ext ((n2.vx.trans n3.vx).trans nn.vx) r1, t.ext (n3.vx.trans nn.vx) r2, u.ext nn.vx r3⟩⟩⟩⟩
theorem e_p4 {δ : Type} {t4 : Ty δ} {w0 : δ} {d : Expr} {n : Nat} (ha : E X G a s x) (hb : E X G b t y) (hc : E X G c u z) (hd : E X G d t4 w0) (hs : starEach [a, b, c, d] X.env = (false, eval a X.env) :: starEach [b, c, d] X.env := by rfl) (hs2 : starEach [b, c, d] X.env = (false, eval b X.env) :: starEach [c, d] X.env := by rfl) (hs3 : starEach [c, d] X.env = (false, eval c X.env) :: starEach [d] X.env := by rfl) (hs4 : starEach [d] X.env = (false, eval d X.env) :: starEach [] X.env := by rfl) : E X G (.Tuple [a, b, c, d] n pos) (tP4 s t u t4) (x, y, z, w0) := ⟨fun S Q k =>
  ⟨_, pe_tup (pa_cons pe_w (pa_cons pe_w (pa_cons pe_w (pa_cons pe_w pa_nil hs4) hs3) hs2) hs), ha.run S _ fun v M1 H1 n1 r1 => hb.run (S.next n1) _ fun w M2 H2 n2 r2 => hc.run (S.next (n1.trans n2)) _ fun w3 M3 H3 n3 r3 => hd.run (S.next ((n1.trans n2).trans n3)) _ fun w4 M4 H4 n4 r4 => ⟨by show 4 ≤ sizeLine; decide, fun p hp => by
    have nn := Nx.new (o := .tup [v, w, w3, w4]) n4.sub hp
    exact k _ _ _ ((((n1.trans n2).trans n3).trans n4).trans nn) ⟨p, v, w, w3, w4, rfl, .inl (.inl upd_same), s.ext (((n2.vx.trans n3.vx).trans n4.vx).trans nn.vx) r1, t.ext ((n3.vx.trans n4.vx).trans nn.vx) r2, u.ext (n4.vx.trans nn.vx) r3, t4.ext nn.vx r4⟩⟩⟩⟩
end
end TL

namespace TL
open PySem L2

/-! ### lists as they are indexed and cut -/
section
variable {α β : Type}
/-- xs[i], any sign -/
def ix [Inhabited α] (xs : List α) (i : Int) : α := (atI xs i).getD default
theorem atI_pos {xs : List α} {i : Int} (h0 : 0 ≤ i) (h1 : i < xs.length) : ∃ x, xs[i.toNat]? = some x ∧ atI xs i = some x := by
  have hl : i.toNat < xs.length := by omega
  refine ⟨xs[i.toNat], List.getElem?_eq_getElem hl, ?_⟩
  have := atI_nat (List.getElem?_eq_getElem hl)
  rw [Int.toNat_of_nonneg h0] at this
  exact this
theorem atI_neg {xs : List α} {i : Int} (h0 : i < 0) (h1 : -(xs.length : Int) ≤ i) : ∃ x, xs[(i + xs.length).toNat]? = some x ∧ atI xs i = some x := by
  have hl : (i + xs.length).toNat < xs.length := by omega
  refine ⟨xs[(i + xs.length).toNat], List.getElem?_eq_getElem hl, ?_⟩
  unfold atI ixN
  rw [if_neg (by omega), if_pos h1]
  simp only [Option.bind_some]
  exact List.getElem?_eq_getElem hl
theorem atI_ix [Inhabited α] {xs : List α} {i : Int} (h0 : -(xs.length : Int) ≤ i) (h1 : i < xs.length) : atI xs i = some (ix xs i) := by
  unfold ix
  rcases Int.lt_or_le i 0 with h | h
  · obtain ⟨x, _, q⟩ := atI_neg h h0; rw [q]; rfl
  · obtain ⟨x, _, q⟩ := atI_pos h h1; rw [q]; rfl
theorem ix_pos [Inhabited α] {xs : List α} {i : Int} (h0 : 0 ≤ i) (h1 : i < xs.length) : xs[i.toNat]? = some (ix xs i) := by
  obtain ⟨x, q1, q2⟩ := atI_pos h0 h1
  unfold ix; rw [q2, q1]; rfl
theorem ix_mem [Inhabited α] {xs : List α} {i : Int} (h0 : 0 ≤ i) (h1 : i < xs.length) : ix xs i ∈ xs := List.mem_of_getElem? (ix_pos h0 h1)
theorem atI_paired {F : V → α → Prop} {vs : List V} {xs : List α} {i : Int} {x : α} (p : Paired F vs xs) (h : atI xs i = some x) : ∃ v, atI vs i = some v ∧ F v x := by
  unfold atI at h ⊢
  rw [p.length]
  cases e : ixN xs.length i with
  | none => rw [e] at h; cases h
  | some j =>
    rw [e] at h
    obtain ⟨v, h1, h2⟩ := paired_get p (show xs[j]? = some x from h)
    exact ⟨v, h1, h2⟩
/-- xs[lo:hi] -/
def cut (xs : List α) (lo hi : Option Int) : List α := (xs.drop (HT.sIx xs.length 0 lo)).take (HT.sIx xs.length xs.length hi - HT.sIx xs.length 0 lo)
theorem cut_paired {F : V → α → Prop} {vs : List V} {xs : List α} (lo hi : Option Int) (p : Paired F vs xs) : Paired F (cutV vs lo hi) (cut xs lo hi) := by
  unfold cutV cut
  rw [p.length]
  exact paired_take _ (paired_drop _ p)
end

section
variable {α β γ : Type} {X : Cx} {G : List Sl} {a b c e : Expr} {es rest : List Expr} {s : Ty α} {t : Ty β} {u : Ty γ} {x : α} {y : β} {z : γ} {pos : Pos} {i j : Int} {xs ys : List α} {p q : Bool}
/-! ### subscripts -/
theorem e_ixT (ha : E X G a (tTup s) xs) (hb : E X G b tI i) (h : atI xs i = some x) (hs : PlainIx b := by exact fun _ _ => rfl) : E X G (.Subscript a b pos) s x := ⟨fun S Q k =>
  ⟨_, pe_ix ix_tup pe_w pe_w hs, ha.run S _ fun v M1 H1 n1 r1 => hb.run (S.next n1) _ fun w M2 H2 n2 r2 => by
    obtain ⟨p, vs, e1, e2, e3⟩ := r1
    obtain ⟨v', g1, g2⟩ := atI_paired e3 h
    exact ⟨p, vs, i, v', e1, r2, sqT_ext (n2.vx.trans n2.sub) e2, g1, k v' M2 H2 (n1.trans n2) (s.ext n2.vx g2)⟩⟩⟩
theorem e_ixL (ha : E X G a (tLst s) xs) (hb : E X G b tI i) (h : atI xs i = some x) (hs : PlainIx b := by exact fun _ _ => rfl) : E X G (.Subscript a b pos) s x := ⟨fun S Q k =>
  ⟨_, pe_ix ix_list pe_w pe_w hs, ha.run S _ fun v M1 H1 n1 r1 => hb.run (S.next n1) _ fun w M2 H2 n2 r2 => by
    obtain ⟨p, vs, e1, e2, e3⟩ := r1
    obtain ⟨v', g1, g2⟩ := atI_paired e3 h
    exact ⟨p, vs, i, v', e1, r2, SqL.of (n2.sub _ _ (n2.vx _ _ e2)), g1, k v' M2 H2 (n1.trans n2) (s.ext n2.vx g2)⟩⟩⟩
theorem e_ixS (ha : E X G a (tSq s) xs) (hb : E X G b tI i) (h : atI xs i = some x) (hs : PlainIx b := by exact fun _ _ => rfl) : E X G (.Subscript a b pos) s x := ⟨fun S Q k =>
  ⟨_, pe_ix ix_list pe_w pe_w hs, ha.run S _ fun v M1 H1 n1 r1 => hb.run (S.next n1) _ fun w M2 H2 n2 r2 => by
    obtain ⟨p, vs, e1, e2, e3⟩ := r1
    obtain ⟨v', g1, g2⟩ := atI_paired e3 h
    exact ⟨p, vs, i, v', e1, r2, sqL_ext (n2.vx.trans n2.sub) e2, g1, k v' M2 H2 (n1.trans n2) (s.ext n2.vx g2)⟩⟩⟩
theorem e_2a {w : α × β} (ha : E X G a (tP2 s t) w) (hb : E X G b tI 0) (hs : PlainIx b := by exact fun _ _ => rfl) : E X G (.Subscript a b pos) s w.1 := ⟨fun S Q k =>
  ⟨_, pe_ix ix_tup pe_w pe_w hs, ha.run S _ fun v M1 H1 n1 r1 => hb.run (S.next n1) _ fun w M2 H2 n2 r2 => by
    obtain ⟨p, v1, v2, e1, e2, e3, e4⟩ := r1
    exact ⟨p, _, 0, v1, e1, r2, sqT_ext (n2.vx.trans n2.sub) e2, rfl, k v1 M2 H2 (n1.trans n2) (s.ext n2.vx e3)⟩⟩⟩
theorem e_2b {w : α × β} (ha : E X G a (tP2 s t) w) (hb : E X G b tI 1) (hs : PlainIx b := by exact fun _ _ => rfl) : E X G (.Subscript a b pos) t w.2 := ⟨fun S Q k =>
  ⟨_, pe_ix ix_tup pe_w pe_w hs, ha.run S _ fun v M1 H1 n1 r1 => hb.run (S.next n1) _ fun w M2 H2 n2 r2 => by
    obtain ⟨p, v1, v2, e1, e2, e3, e4⟩ := r1
    exact ⟨p, _, 1, v2, e1, r2, sqT_ext (n2.vx.trans n2.sub) e2, rfl, k v2 M2 H2 (n1.trans n2) (t.ext n2.vx e4)⟩⟩⟩
theorem e_4a {δ : Type} {t4 : Ty δ} {w : α × β × γ × δ} (ha : E X G a (tP4 s t u t4) w) (hb : E X G b tI 0) (hs : PlainIx b := by exact fun _ _ => rfl) : E X G (.Subscript a b pos) s w.1 := ⟨fun S Q k =>
  ⟨_, pe_ix ix_tup pe_w pe_w hs, ha.run S _ fun v M1 H1 n1 r1 => hb.run (S.next n1) _ fun w' M2 H2 n2 r2 => by
    obtain ⟨p, v1, v2, v3, v4, e1, e2, e3, e4, e5, e6⟩ := r1
    exact ⟨p, _, 0, v1, e1, r2, sqT_ext (n2.vx.trans n2.sub) e2, rfl, k v1 M2 H2 (n1.trans n2) (s.ext n2.vx e3)⟩⟩⟩
theorem e_4b {δ : Type} {t4 : Ty δ} {w : α × β × γ × δ} (ha : E X G a (tP4 s t u t4) w) (hb : E X G b tI 1) (hs : PlainIx b := by exact fun _ _ => rfl) : E X G (.Subscript a b pos) t w.2.1 := ⟨fun S Q k =>
  ⟨_, pe_ix ix_tup pe_w pe_w hs, ha.run S _ fun v M1 H1 n1 r1 => hb.run (S.next n1) _ fun w' M2 H2 n2 r2 => by
    obtain ⟨p, v1, v2, v3, v4, e1, e2, e3, e4, e5, e6⟩ := r1
    exact ⟨p, _, 1, v2, e1, r2, sqT_ext (n2.vx.trans n2.sub) e2, rfl, k v2 M2 H2 (n1.trans n2) (t.ext n2.vx e4)⟩⟩⟩
theorem e_4c {δ : Type} {t4 : Ty δ} {w : α × β × γ × δ} (ha : E X G a (tP4 s t u t4) w) (hb : E X G b tI 2) (hs : PlainIx b := by exact fun _ _ => rfl) : E X G (.Subscript a b pos) u w.2.2.1 := ⟨fun S Q k =>
  ⟨_, pe_ix ix_tup pe_w pe_w hs, ha.run S _ fun v M1 H1 n1 r1 => hb.run (S.next n1) _ fun w' M2 H2 n2 r2 => by
    obtain ⟨p, v1, v2, v3, v4, e1, e2, e3, e4, e5, e6⟩ := r1
    exact ⟨p, _, 2, v3, e1, r2, sqT_ext (n2.vx.trans n2.sub) e2, rfl, k v3 M2 H2 (n1.trans n2) (u.ext n2.vx e5)⟩⟩⟩
theorem e_4d {δ : Type} {t4 : Ty δ} {w : α × β × γ × δ} (ha : E X G a (tP4 s t u t4) w) (hb : E X G b tI 3) (hs : PlainIx b := by exact fun _ _ => rfl) : E X G (.Subscript a b pos) t4 w.2.2.2 := ⟨fun S Q k =>
  ⟨_, pe_ix ix_tup pe_w pe_w hs, ha.run S _ fun v M1 H1 n1 r1 => hb.run (S.next n1) _ fun w' M2 H2 n2 r2 => by
    obtain ⟨p, v1, v2, v3, v4, e1, e2, e3, e4, e5, e6⟩ := r1
    exact ⟨p, _, 3, v4, e1, r2, sqT_ext (n2.vx.trans n2.sub) e2, rfl, k v4 M2 H2 (n1.trans n2) (t4.ext n2.vx e6)⟩⟩⟩
/-- parts of a slice -/
structure EO (X : Cx) (G : List Sl) (e : Option Expr) (o : Option Int) : Prop where
  run : ∀ {M0 H0 M H : Hp} {σ : L2.St}, St X.K M0 H0 M H σ G → ∀ (Q : Option Int → Hp → Prop), (∀ M' H', Nx M H M' H' → Q o H') → ∃ te, PO X e te ∧ te σ H Q
theorem eo_none : EO X G none none := ⟨fun {M0 H0 M H σ} S Q k => ⟨_, po_none, k M H (Nx.refl S.sub)⟩⟩
theorem eo_some (h : E X G e tI i) : EO X G (some e) (some i) := ⟨fun S Q k => ⟨_, po_some pe_w, h.run S _ fun v M1 H1 n1 r1 => ⟨i, r1, k M1 H1 n1⟩⟩⟩
def wO (X : Cx) (e : Option Expr) : TO := fun σ H Q => ∃ te, PO X e te ∧ te σ H Q
theorem po_w {e : Option Expr} : PO X e (wO X e) := ⟨fun pins s σ H Q I ⟨_, p, h⟩ => p.run pins s σ H Q I h⟩
theorem el_slice {lo hi : Option Expr} {l h : Option Int} {p2 : Pos} (ha : E X G a (tLst s) xs) (hl : EO X G lo l) (hh : EO X G hi h) : EL X G (.Subscript a (.Slice lo hi none p2) pos) s (cut xs l h) := ⟨fun S Q k =>
  ⟨_, pe_slice sl_list pe_w po_w po_w, ha.run S _ fun v M1 H1 n1 r1 => hl.run (S.next n1) _ fun M2 H2 n2 => hh.run (S.next (n1.trans n2)) _ fun M3 H3 n3 => by
    obtain ⟨p, vs, e1, e2, e3⟩ := r1
    have vx := n2.vx.trans n3.vx
    have n := (n1.trans n2).trans n3
    exact ⟨p, vs, e1, SqL.of (n3.sub _ _ (vx _ _ e2)), fun r hr => k r M3 _ _ ⟨n.ex.trans (same_new hr), n.vx, n.sub.trans (same_new hr), n.fr⟩ (n.ex.free hr) (same_none n.sub hr) upd_same (cut_paired l h (paired_imp (fun _ _ q => s.ext vx q) e3))⟩⟩⟩
theorem cut_whole {xs : List α} {l h : Option Int} (h1 : HT.sIx xs.length 0 l = 0) (h2 : HT.sIx xs.length xs.length h = xs.length) : cut xs l h = xs := by
  unfold cut; rw [h1, h2]; simp
theorem e_sliceT {lo hi : Option Expr} {l h : Option Int} {p2 : Pos} (ha : E X G a (tTup s) xs) (hl : EO X G lo l) (hh : EO X G hi h) : E X G (.Subscript a (.Slice lo hi none p2) pos) (tTup s) (cut xs l h) := ⟨fun S Q k =>
  ⟨_, pe_slice sl_tupA pe_w po_w po_w, ha.run S _ fun v M1 H1 n1 r1 => hl.run (S.next n1) _ fun M2 H2 n2 => hh.run (S.next (n1.trans n2)) _ fun M3 H3 n3 => by
    obtain ⟨p, vs, e1, e2, e3⟩ := r1
    have vx := n2.vx.trans n3.vx
    have n := (n1.trans n2).trans n3
    have hlen := e3.length
    refine ⟨p, vs, e1, sqT_ext (vx.trans n3.sub) e2, fun ⟨w1, w2⟩ => ?_, fun _ r hr => ?_⟩
    · rw [hlen] at w1 w2
      refine k _ M3 H3 n ⟨p, vs, rfl, sqT_ext vx e2, ?_⟩
      rw [cut_whole w1 w2]
      exact paired_imp (fun _ _ q => s.ext vx q) e3
    · exact k _ _ _ (n.trans (Nx.new n3.sub hr)) ⟨r, _, rfl, .inl (.inl upd_same), cut_paired l h (paired_imp (fun _ _ q => s.ext (vx.trans (same_new (same_none n3.sub hr))) q) e3)⟩⟩⟩
/-- t + u of tuples -/
theorem e_catT (ha : E X G a (tTup s) xs) (hb : E X G b (tTup s) ys) (h0 : xs ≠ []) (hz : xs.length + ys.length ≤ 1000000) : E X G (.BinOp a .Add b pos) (tTup s) (xs ++ ys) := e_op2 op_catT ha hb fun M H v w Q m h1 h2 k => by
  obtain ⟨p, vs, e1, e2, e3⟩ := h1
  obtain ⟨q, ws, f1, f2, f3⟩ := h2
  have l1 := e3.length
  have l2 := f3.length
  refine ⟨p, q, vs, ws, e1, f1, sqT_ext m e2, sqT_ext m f2, fun z => h0 ?_, by rw [l1, l2]; exact Nat.le_trans hz (by decide), fun z => ?_, fun _ r hr => ?_⟩
  · rw [z] at l1
    exact List.eq_nil_of_length_eq_zero l1.symm
  · have : ys = [] := by rw [z] at l2; exact List.eq_nil_of_length_eq_zero l2.symm
    rw [this, List.append_nil] at k
    exact k _ M H (Nx.refl m) ⟨p, vs, rfl, e2, e3⟩
  · exact k _ _ _ (Nx.new m hr) ⟨r, _, rfl, .inl (.inl upd_same), paired_imp (fun _ _ q => s.ext (same_new (same_none m hr)) q) (paired_app e3 f3)⟩
theorem nx_lay {M H : Hp} (m : Same M H) {p : Addr} {o : HO} (hp : H p = none) : Nx M H M (upd H p o) := ⟨same_new hp, Same.refl _, m.trans (same_new hp), fun _ q _ => q⟩
/-- xs + ys, xs * n of lists -/
theorem el_cat (ha : E X G a (tLst s) xs) (hb : E X G b (tLst s) ys) (hz : xs.length + ys.length ≤ 1000000) : EL X G (.BinOp a .Add b pos) s (xs ++ ys) := el_op2 op_cat ha hb fun M H v w Q m h1 h2 k => by
  obtain ⟨p, vs, e1, e2, e3⟩ := h1
  obtain ⟨q, ws, f1, f2, f3⟩ := h2
  refine ⟨p, q, vs, ws, e1, f1, m _ _ e2, m _ _ f2, by rw [e3.length, f3.length]; exact Nat.le_trans hz (by decide), fun r hr => ?_⟩
  exact k r M _ _ (nx_lay m hr) hr (same_none m hr) upd_same (paired_app e3 f3)
theorem paired_rep {F : V → α → Prop} {vs : List V} {xs : List α} (p : Paired F vs xs) : ∀ n : Nat, Paired F (List.replicate n vs).flatten (List.replicate n xs).flatten
  | 0 => .nil
  | n + 1 => by
    rw [List.replicate_succ, List.replicate_succ, List.flatten_cons, List.flatten_cons]
    exact paired_app p (paired_rep p n)
theorem rep_len (n : Nat) (xs : List α) : (List.replicate n xs).flatten.length = n * xs.length := by
  induction n with
  | zero => simp
  | succ n ih => rw [List.replicate_succ, List.flatten_cons, List.length_append, ih, Nat.succ_mul]; omega
theorem el_rep (ha : E X G a (tLst s) xs) (hb : E X G b tI i) (h1 : -1000000 ≤ i ∧ i ≤ 1000000) (hz : xs.length * i.toNat ≤ 1000000) : EL X G (.BinOp a .Mult b pos) s (List.replicate i.toNat xs).flatten := el_op2 op_rep ha hb fun M H v w Q m q1 q2 k => by
  obtain ⟨p, vs, e1, e2, e3⟩ := q1
  refine ⟨p, i, vs, e1, q2, m _ _ e2, by omega, by omega, by rw [e3.length]; exact Nat.le_trans hz (by decide), fun r hr => ?_⟩
  exact k r M _ _ (nx_lay m hr) hr (same_none m hr) upd_same (paired_rep e3 _)

/-! ### built-ins -/
def wC1 (X : Cx) (id : String) : List V → Hp → VK → Prop := fun vs H Q => ∃ r, CallR X (.builtin id) r ∧ r vs H Q
theorem e_cb {n : Str} {id : String} {r : List V → Hp → VK → Prop} {ss : List Sl} (hc : CallR X (.builtin id) r) (ha : EA X G (e :: es) ss) (hm : X.mg n = none)
    (hr : ∀ (M H : Hp) (vs : List V) (Q : VK), Same M H → Reps X.K M vs ss → (∀ v M' H', Nx M H M' H' → u.rep X.K M' v z → Q v H') → r vs H Q)
    (hv : bootBuiltins n = some (.builtin id) := by decide +kernel) (hg : Gl X n := by rfl) (hn : n ≠ "__name__" := by decide) (hdb : (n == ("__debug__" : Str)) = false := by decide)
    (he : starEach (e :: es) X.env = (false, eval e X.env) :: starEach es X.env := by rfl) (hpl : (backTo pos (starEach es X.env)).any (·.1) = false := by rfl) {p : Pos} : E X G (.Call (.Name n p) (e :: es) [] pos) u z := ⟨fun S Q k =>
  ⟨_, pe_callB hc hg hm hv pa_w hn hdb he hpl, ha.run S _ fun vs M1 H1 n1 r1 => hr M1 H1 vs Q n1.sub r1 fun v M2 H2 n2 r2 => k v M2 H2 (n1.trans n2) r2⟩⟩
theorem e_ct {n : Str} {T : String} {r : List V → Hp → VK → Prop} {ss : List Sl} (hc : CallR X (.type T) r) (ha : EA X G (e :: es) ss) (hm : X.mg n = none)
    (hr : ∀ (M H : Hp) (vs : List V) (Q : VK), Same M H → Reps X.K M vs ss → (∀ v M' H', Nx M H M' H' → u.rep X.K M' v z → Q v H') → r vs H Q)
    (hv : bootBuiltins n = some (.type T) := by decide +kernel) (hg : Gl X n := by rfl) (hn : n ≠ "__name__" := by decide) (hdb : (n == ("__debug__" : Str)) = false := by decide)
    (he : starEach (e :: es) X.env = (false, eval e X.env) :: starEach es X.env := by rfl) (hpl : (backTo pos (starEach es X.env)).any (·.1) = false := by rfl) {p : Pos} : E X G (.Call (.Name n p) (e :: es) [] pos) u z := ⟨fun S Q k =>
  ⟨_, pe_callTy hc hg hm hv pa_w hn hdb he hpl, ha.run S _ fun vs M1 H1 n1 r1 => hr M1 H1 vs Q n1.sub r1 fun v M2 H2 n2 r2 => k v M2 H2 (n1.trans n2) r2⟩⟩
theorem el_ct {n : Str} {T : String} {r : List V → Hp → VK → Prop} {ss : List Sl} {zs : List γ} (hc : CallR X (.type T) r) (ha : EA X G (e :: es) ss) (hm : X.mg n = none)
    (hr : ∀ (M H : Hp) (vs : List V) (Q : VK), Same M H → Reps X.K M vs ss → (∀ p M' H' ws, Nx M H M' H' → H p = none → M' p = none → H' p = some (.lst ws) → Paired (u.rep X.K M') ws zs → Q (.ref p) H') → r vs H Q)
    (hv : bootBuiltins n = some (.type T) := by decide +kernel) (hg : Gl X n := by rfl) (hn : n ≠ "__name__" := by decide) (hdb : (n == ("__debug__" : Str)) = false := by decide)
    (he : starEach (e :: es) X.env = (false, eval e X.env) :: starEach es X.env := by rfl) (hpl : (backTo pos (starEach es X.env)).any (·.1) = false := by rfl) {p : Pos} : EL X G (.Call (.Name n p) (e :: es) [] pos) u zs := ⟨fun S Q k =>
  ⟨_, pe_callTy hc hg hm hv pa_w hn hdb he hpl, ha.run S _ fun vs M1 H1 n1 r1 => hr M1 H1 vs Q n1.sub r1 fun p M2 H2 ws n2 hp mp hh r2 => k p M2 H2 ws (n1.trans n2) (n1.ex.free hp) mp hh r2⟩⟩
theorem el_cb {n : Str} {id : String} {r : List V → Hp → VK → Prop} {ss : List Sl} {zs : List γ} (hc : CallR X (.builtin id) r) (ha : EA X G (e :: es) ss) (hm : X.mg n = none)
    (hr : ∀ (M H : Hp) (vs : List V) (Q : VK), Same M H → Reps X.K M vs ss → (∀ p M' H' ws, Nx M H M' H' → H p = none → M' p = none → H' p = some (.lst ws) → Paired (u.rep X.K M') ws zs → Q (.ref p) H') → r vs H Q)
    (hv : bootBuiltins n = some (.builtin id) := by decide +kernel) (hg : Gl X n := by rfl) (hn : n ≠ "__name__" := by decide) (hdb : (n == ("__debug__" : Str)) = false := by decide)
    (he : starEach (e :: es) X.env = (false, eval e X.env) :: starEach es X.env := by rfl) (hpl : (backTo pos (starEach es X.env)).any (·.1) = false := by rfl) {p : Pos} : EL X G (.Call (.Name n p) (e :: es) [] pos) u zs := ⟨fun S Q k =>
  ⟨_, pe_callB hc hg hm hv pa_w hn hdb he hpl, ha.run S _ fun vs M1 H1 n1 r1 => hr M1 H1 vs Q n1.sub r1 fun p M2 H2 ws n2 hp mp hh r2 => k p M2 H2 ws (n1.trans n2) (n1.ex.free hp) mp hh r2⟩⟩
end
theorem reps1 {K : Fg} {M : Hp} {α : Type} {t : Ty α} {x : α} {vs : List V} (h : Reps K M vs [.vl t x]) : ∃ v, vs = [v] ∧ t.rep K M v x := by
  cases h with
  | cons h r => cases r; exact ⟨_, rfl, h⟩
theorem reps2 {K : Fg} {M : Hp} {α β : Type} {t : Ty α} {x : α} {s : Ty β} {y : β} {vs : List V} (h : Reps K M vs [.vl t x, .vl s y]) : ∃ v w, vs = [v, w] ∧ t.rep K M v x ∧ s.rep K M w y := by
  cases h with
  | cons h r => cases r with | cons h' r' => cases r'; exact ⟨_, _, rfl, h, h'⟩
section
variable {α β γ : Type} {X : Cx} {G : List Sl} {a b c e : Expr} {es rest : List Expr} {s : Ty α} {t : Ty β} {u : Ty γ} {x : α} {y : β} {z : γ} {pos : Pos} {i j : Int} {xs ys : List α} {p q : Bool}
section
variable {h1 : starEach [a] X.env = (false, eval a X.env) :: starEach [] X.env}
theorem e_lenT {p : Pos} (hm : X.mg "len" = none) (ha : E X G a (tTup s) xs) (hg : Gl X "len" := by rfl) (he : starEach [a] X.env = (false, eval a X.env) :: starEach [] X.env := by rfl) : E X G (.Call (.Name "len" p) [a] [] pos) tI (xs.length : Int) :=
  e_cb call_len_seq (ea_cons ha ea_nil he) hm (fun M H vs Q m r k => by
    obtain ⟨v, rfl, p, ws, e1, e2, e3⟩ := reps1 r
    exact ⟨p, ws, by rw [e1], .inr (sqT_ext m e2), by rw [e3.length]; exact k _ M H (Nx.refl m) rfl⟩) PySem.boot_len hg (by decide) (by decide) he
theorem e_lenL {p : Pos} (hm : X.mg "len" = none) (ha : E X G a (tLst s) xs) (hg : Gl X "len" := by rfl) (he : starEach [a] X.env = (false, eval a X.env) :: starEach [] X.env := by rfl) : E X G (.Call (.Name "len" p) [a] [] pos) tI (xs.length : Int) :=
  e_cb call_len_seq (ea_cons ha ea_nil he) hm (fun M H vs Q m r k => by
    obtain ⟨v, rfl, p, ws, e1, e2, e3⟩ := reps1 r
    exact ⟨p, ws, by rw [e1], .inl (SqL.of (m _ _ e2)), by rw [e3.length]; exact k _ M H (Nx.refl m) rfl⟩) PySem.boot_len hg (by decide) (by decide) he
theorem e_lenS {p : Pos} (hm : X.mg "len" = none) (ha : E X G a (tSq s) xs) (hg : Gl X "len" := by rfl) (he : starEach [a] X.env = (false, eval a X.env) :: starEach [] X.env := by rfl) : E X G (.Call (.Name "len" p) [a] [] pos) tI (xs.length : Int) :=
  e_cb call_len_seq (ea_cons ha ea_nil he) hm (fun M H vs Q m r k => by
    obtain ⟨v, rfl, p, ws, e1, e2, e3⟩ := reps1 r
    exact ⟨p, ws, by rw [e1], .inl (sqL_ext m e2), by rw [e3.length]; exact k _ M H (Nx.refl m) rfl⟩) PySem.boot_len hg (by decide) (by decide) he
theorem e_intI {p : Pos} (hm : X.mg "int" = none) (ha : E X G a tI i) (hg : Gl X "int" := by rfl) (he : starEach [a] X.env = (false, eval a X.env) :: starEach [] X.env := by rfl) : E X G (.Call (.Name "int" p) [a] [] pos) tI i :=
  e_ct call_int1 (ea_cons ha ea_nil he) hm (fun M H vs Q m r k => by
    obtain ⟨v, rfl, e1⟩ := reps1 r
    exact .inl ⟨i, by rw [show v = V.int i from e1], k _ M H (Nx.refl m) rfl⟩) (by decide +kernel) hg (by decide) (by decide) he
theorem e_intB {p : Pos} {d : Bool} (hm : X.mg "int" = none) (ha : E X G a tB d) (hg : Gl X "int" := by rfl) (he : starEach [a] X.env = (false, eval a X.env) :: starEach [] X.env := by rfl) : E X G (.Call (.Name "int" p) [a] [] pos) tI (if d then 1 else 0) :=
  e_ct call_int1 (ea_cons ha ea_nil he) hm (fun M H vs Q m r k => by
    obtain ⟨v, rfl, e1⟩ := reps1 r
    exact .inr ⟨d, by rw [show v = V.bl d from e1], k _ M H (Nx.refl m) rfl⟩) (by decide +kernel) hg (by decide) (by decide) he
theorem e_strI {p : Pos} (hm : X.mg "str" = none) (ha : E X G a tI i) (hi : i.natAbs.log2 < 1920) (hg : Gl X "str" := by rfl) (he : starEach [a] X.env = (false, eval a X.env) :: starEach [] X.env := by rfl) : E X G (.Call (.Name "str" p) [a] [] pos) tS (toString i) :=
  e_ct call_str_int (ea_cons ha ea_nil he) hm (fun M H vs Q m r k => by
    obtain ⟨v, rfl, e1⟩ := reps1 r
    exact ⟨i, by rw [show v = V.int i from e1], hi, k _ M H (Nx.refl m) rfl⟩) (by decide +kernel) hg (by decide) (by decide) he
/-- max, min of two -/
theorem e_max {p : Pos} (hcm : X.calm = true) (hm : X.mg "max" = none) (ha : E X G a tI i) (hb : E X G b tI j) (hg : Gl X "max" := by rfl) (he : starEach [a, b] X.env = (false, eval a X.env) :: starEach [b] X.env := by rfl) (he2 : starEach [b] X.env = (false, eval b X.env) :: starEach [] X.env := by rfl)
    (hpl : (backTo pos (starEach [b] X.env)).any (·.1) = false := by rfl) : E X G (.Call (.Name "max" p) [a, b] [] pos) tI (if j > i then j else i) :=
  e_cb (call_max2 hcm) (ea_cons ha (ea_cons hb ea_nil he2) he) hm (fun M H vs Q m r k => by
    obtain ⟨v, w, rfl, e1, e2⟩ := reps2 r
    exact ⟨i, j, by rw [show v = V.int i from e1, show w = V.int j from e2], k _ M H (Nx.refl m) rfl⟩) (by decide +kernel) hg (by decide) (by decide) he hpl
theorem e_min {p : Pos} (hcm : X.calm = true) (hm : X.mg "min" = none) (ha : E X G a tI i) (hb : E X G b tI j) (hg : Gl X "min" := by rfl) (he : starEach [a, b] X.env = (false, eval a X.env) :: starEach [b] X.env := by rfl) (he2 : starEach [b] X.env = (false, eval b X.env) :: starEach [] X.env := by rfl)
    (hpl : (backTo pos (starEach [b] X.env)).any (·.1) = false := by rfl) : E X G (.Call (.Name "min" p) [a, b] [] pos) tI (if j < i then j else i) :=
  e_cb (call_min2 hcm) (ea_cons ha (ea_cons hb ea_nil he2) he) hm (fun M H vs Q m r k => by
    obtain ⟨v, w, rfl, e1, e2⟩ := reps2 r
    exact ⟨i, j, by rw [show v = V.int i from e1, show w = V.int j from e2], k _ M H (Nx.refl m) rfl⟩) (by decide +kernel) hg (by decide) (by decide) he hpl
/-- list(..), tuple(..) -/
theorem el_listL {p : Pos} (hm : X.mg "list" = none) (ha : E X G a (tLst s) xs) (hg : Gl X "list" := by rfl) (he : starEach [a] X.env = (false, eval a X.env) :: starEach [] X.env := by rfl) : EL X G (.Call (.Name "list" p) [a] [] pos) s xs :=
  el_ct call_list_of (ea_cons ha ea_nil he) hm (fun M H vs Q m r k => by
    obtain ⟨v, rfl, p, ws, e1, e2, e3⟩ := reps1 r
    exact ⟨p, ws, by rw [e1], .inl (SqL.of (m _ _ e2)), fun l hl => k l M _ ws (nx_lay m hl) hl (same_none m hl) upd_same e3⟩) (by decide +kernel) hg (by decide) (by decide) he
theorem el_listT {p : Pos} (hm : X.mg "list" = none) (ha : E X G a (tTup s) xs) (hg : Gl X "list" := by rfl) (he : starEach [a] X.env = (false, eval a X.env) :: starEach [] X.env := by rfl) : EL X G (.Call (.Name "list" p) [a] [] pos) s xs :=
  el_ct call_list_of (ea_cons ha ea_nil he) hm (fun M H vs Q m r k => by
    obtain ⟨v, rfl, p, ws, e1, e2, e3⟩ := reps1 r
    exact ⟨p, ws, by rw [e1], .inr (sqT_ext m e2), fun l hl => k l M _ ws (nx_lay m hl) hl (same_none m hl) upd_same e3⟩) (by decide +kernel) hg (by decide) (by decide) he
theorem e_tupL {p : Pos} (hm : X.mg "tuple" = none) (ha : E X G a (tLst s) xs) (hg : Gl X "tuple" := by rfl) (he : starEach [a] X.env = (false, eval a X.env) :: starEach [] X.env := by rfl) : E X G (.Call (.Name "tuple" p) [a] [] pos) (tTup s) xs :=
  e_ct call_tuple_of (ea_cons ha ea_nil he) hm (fun M H vs Q m r k => by
    obtain ⟨v, rfl, p, ws, e1, e2, e3⟩ := reps1 r
    exact ⟨p, ws, by rw [e1], .inl ⟨SqL.of (m _ _ e2), fun l hl => k _ _ _ (Nx.new m hl) ⟨l, ws, rfl, .inl (.inl upd_same), paired_imp (fun _ _ q => s.ext (same_new (same_none m hl)) q) e3⟩⟩⟩) (by decide +kernel) hg (by decide) (by decide) he
theorem e_tupT {p : Pos} (hm : X.mg "tuple" = none) (ha : E X G a (tTup s) xs) (hg : Gl X "tuple" := by rfl) (he : starEach [a] X.env = (false, eval a X.env) :: starEach [] X.env := by rfl) : E X G (.Call (.Name "tuple" p) [a] [] pos) (tTup s) xs :=
  e_ct call_tuple_of (ea_cons ha ea_nil he) hm (fun M H vs Q m r k => by
    obtain ⟨v, rfl, p, ws, e1, e2, e3⟩ := reps1 r
    exact ⟨p, ws, by rw [e1], .inr ⟨sqT_ext m e2, k _ M H (Nx.refl m) ⟨p, ws, rfl, e2, e3⟩⟩⟩) (by decide +kernel) hg (by decide) (by decide) he
/-- sum of a list of ints -/
theorem paired_int {M : Hp} {K : Fg} : ∀ {vs : List V} {ns : List Int}, Paired (tI.rep K M) vs ns → vs = ns.map V.int
  | _, _, .nil => rfl
  | _, _, .cons h t => by rw [List.map_cons, paired_int t]; rw [show _ = V.int _ from h]
theorem e_sum {p : Pos} {ns : List Int} (hcm : X.calm = true) (hm : X.mg "sum" = none) (ha : E X G a (tLst tI) ns) (hg : Gl X "sum" := by rfl) (he : starEach [a] X.env = (false, eval a X.env) :: starEach [] X.env := by rfl) : E X G (.Call (.Name "sum" p) [a] [] pos) tI ns.sum :=
  e_cb (cr_sum hcm) (ea_cons ha ea_nil he) hm (fun M H vs Q m r k => by
    obtain ⟨v, rfl, p, ws, e1, e2, e3⟩ := reps1 r
    have e4 := paired_int e3
    subst e4
    exact ⟨p, ns, by rw [e1], SqL.of (m _ _ e2), k _ M H (Nx.refl m) rfl⟩) (by decide +kernel) hg (by decide) (by decide) he
/-- isinstance(x, c) -/
theorem e_isi {p : Pos} {cv : V} {d : Bool} (hm : X.mg "isinstance" = none) (ha : E X G a s x) (hb : E X G b tC cv) (ht : ∀ M v, s.rep X.K M v x → ∃ ty w, ClsV cv w ∧ (∀ H, Same M H → TyX X.K H v ty) ∧ PySem.W.kitOne X.K ty w = some d) (hg : Gl X "isinstance" := by rfl)
    (he : starEach [a, b] X.env = (false, eval a X.env) :: starEach [b] X.env := by rfl) (he2 : starEach [b] X.env = (false, eval b X.env) :: starEach [] X.env := by rfl) (hpl : (backTo pos (starEach [b] X.env)).any (·.1) = false := by rfl) : E X G (.Call (.Name "isinstance" p) [a, b] [] pos) tB d :=
  e_cb call_isi (ea_cons ha (ea_cons hb ea_nil he2) he) hm (fun M H vs Q m r k => by
    obtain ⟨v, w, rfl, e1, e2⟩ := reps2 r
    obtain ⟨ty, w', h1, h2, h3⟩ := ht M v e1
    have e2' : w = cv := e2
    subst e2'
    exact ⟨v, w, ty, w', d, rfl, h1, h2 H m, h3, k _ M H (Nx.refl m) rfl⟩) (by decide +kernel) hg (by decide) (by decide) he hpl
end
end
end TL

namespace TL
open PySem L2

/-! ### statements -/
structure Out where
  nx : List Sl → Prop
  rt : Hp → V → Prop
  bk : List Sl → Prop := fun _ => False
  ct : List Sl → Prop := fun _ => False
  xc : Value → Option Addr → Hp → List Sl → Prop := fun _ _ _ _ => False
structure Fin (K : Fg) (R : Out) (M0 H0 : Hp) (D : Ends) (E : WX) : Prop where
  nx : ∀ {M H σ G}, St K M0 H0 M H σ G → R.nx G → D.nx σ H
  rt : ∀ {M H v}, Nx M0 H0 M H → R.rt M v → D.rt v H
  bk : ∀ {M H σ G}, St K M0 H0 M H σ G → R.bk G → D.bk σ H
  ct : ∀ {M H σ G}, St K M0 H0 M H σ G → R.ct G → D.ct σ H
  xc : ∀ {M H σ G c d}, St K M0 H0 M H σ G → R.xc c d M G → E c d σ H
structure S1 (X : Cx) (G : List Sl) (st : Stmt) (R : Out) : Prop where
  run : ∀ {M0 H0 M H : Hp} {σ : L2.St} (D : Ends) (E : WX), St X.K M0 H0 M H σ G → L2N.Takes X E → Fin X.K R M0 H0 D E → w1 X st D σ H
structure B (X : Cx) (G : List Sl) (sts : List Stmt) (R : Out) : Prop where
  run : ∀ {M0 H0 M H : Hp} {σ : L2.St} (D : Ends) (E : WX), St X.K M0 H0 M H σ G → L2N.Takes X E → Fin X.K R M0 H0 D E → wS X sts D σ H
section
variable {α β γ : Type} {X : Cx} {G : List Sl} {a b c e : Expr} {es : List Expr} {st : Stmt} {rest th el body : List Stmt} {s : Ty α} {t : Ty β} {u : Ty γ} {x : α} {y : β} {z : γ} {pos : Pos} {i j : Int} {xs ys : List α} {p q : Bool} {R : Out}

theorem b_nil (h : R.nx G) : B X G [] R := ⟨fun {M0 H0 M H σ} D E S _ f => ⟨_, pss_nil, f.nx S h⟩⟩
theorem b_cons (h : S1 X G st { R with nx := fun G' => B X G' rest R }) : B X G (st :: rest) R := ⟨fun {M0 H0 M H σ} D E S tk f =>
  ⟨_, pss_cons ps_w pss_w, h.run { D with nx := wS X rest D } E S tk ⟨fun S' hb => hb.run D E S' tk f, f.rt, f.bk, f.ct, f.xc⟩⟩⟩
/-- .. where what follows is shown once -/
theorem b_cut (N : List Sl → Prop) (h : S1 X G st { R with nx := N }) (k : ∀ G', N G' → B X G' rest R) : B X G (st :: rest) R :=
  b_cons ⟨fun D E S tk f => h.run D E S tk ⟨fun S' hn => f.nx S' (k _ hn), f.rt, f.bk, f.ct, f.xc⟩⟩
theorem B.weak {G' : List Sl} (h : B X G' rest R) (w : Sub G G') : B X G rest R := ⟨fun D E S tk f => h.run D E (S.weak w) tk f⟩
theorem b_never {sts : List Stmt} (h : False) : B X G sts R := h.elim
theorem b_freeze (k : Nat) {s : Ty α} {xs : List α} (h : G[k]? = some (.ow s xs)) (hb : B X (G.set k (.vl (tLst s) xs)) rest R) : B X G rest R := ⟨fun D E S tk f => by
  obtain ⟨a, vs, _, _, _, S'⟩ := S.freeze h
  exact hb.run D E S' tk f⟩
theorem s_pass (h : R.nx G) : S1 X G (.Pass pos) R := ⟨fun D E S tk f => ⟨_, ps_pass, f.nx S h⟩⟩
theorem s_break (h : R.bk G) : S1 X G (.Break pos) R := ⟨fun D E S tk f => ⟨_, ps_break, f.bk S h⟩⟩
theorem s_cont (h : R.ct G) : S1 X G (.Continue pos) R := ⟨fun D E S tk f => ⟨_, ps_continue, f.ct S h⟩⟩
theorem s_doc {x : Str} {j : Nat} {pos' : Pos} (h : R.nx G) : S1 X G (.Expr (.Constant (.str x) j pos) pos') R := ⟨fun D E S tk f => ⟨_, ps_doc, f.nx S h⟩⟩
theorem s_drop (he : E X G e s x) (h : R.nx G) (hs : swapsWith e none pos.line X.env = pure false := by rfl) : S1 X G (.Expr e pos) R := ⟨fun D E S tk f =>
  ⟨_, ps_expr pe_w hs, he.run S _ fun v M1 H1 n1 r1 => f.nx (S.next n1) h⟩⟩
theorem s_ret (he : E X G e s x) (h : ∀ M v, s.rep X.K M v x → R.rt M v) : S1 X G (.Return (some e) pos) R := ⟨fun D E S tk f =>
  ⟨_, ps_ret pe_w, he.run S _ fun v M1 H1 n1 r1 => f.rt (S.nx.trans n1) (h M1 v r1)⟩⟩
theorem s_retN (h : ∀ M, R.rt M .non) : S1 X G (.Return none pos) R := ⟨fun {M0 H0 M H σ} D E S tk f => ⟨_, ps_retN, f.rt S.nx (h M)⟩⟩
theorem s_set (k : Nat) {n : Str} {pos' : Pos} (he : E X G e s x) (h : R.nx (G.set k (.vl s x))) (hN : X.N.Nodup) (hi : X.N[k]? = some n := by rfl) (hx : Loc X.env.scope n := by first | exact Or.inl rfl | exact Or.inr rfl)
    (hs : swapsWith e (some (.Name n pos')) pos.line X.env = pure false := by rfl) (hf : X.fn n = true ∨ X.env.scope.names.lookup n = some .local := by first | exact .inl rfl | exact .inr rfl) : S1 X G (.Assign [.Name n pos'] e pos) R := ⟨fun D E S tk f =>
  ⟨_, ps_set hN hi hx pe_w hs hf, he.run S _ fun v M1 H1 n1 r1 => f.nx ((S.next n1).set (s := .vl s x) r1) h⟩⟩
/-- a new list of the frame's own -/
theorem s_own (k : Nat) {n : Str} {pos' : Pos} (he : EL X G e s xs) (h : R.nx (G.set k (.ow s xs))) (hN : X.N.Nodup) (hi : X.N[k]? = some n := by rfl) (hx : Loc X.env.scope n := by first | exact Or.inl rfl | exact Or.inr rfl)
    (hs : swapsWith e (some (.Name n pos')) pos.line X.env = pure false := by rfl) (hf : X.fn n = true ∨ X.env.scope.names.lookup n = some .local := by first | exact .inl rfl | exact .inr rfl) : S1 X G (.Assign [.Name n pos'] e pos) R := ⟨fun D E S tk f =>
  ⟨_, ps_set hN hi hx pe_w hs hf, he.run S _ fun p M1 H1 vs n1 hp mp hh r1 => f.nx (S.setOwn n1 hp mp hh r1) h⟩⟩
theorem s_if (hc : T X G c p) (h1 : p = true → B X G th R) (h2 : p = false → B X G el R) : S1 X G (.If c th el pos) R := ⟨fun D E S tk f =>
  ⟨_, ps_if pt_w pss_w pss_w, hc.run S _ fun M1 H1 n1 => by
    cases p with
    | true => rw [if_pos rfl]; exact (h1 rfl).run D E (S.next n1) tk f
    | false => rw [if_neg (by decide)]; exact (h2 rfl).run D E (S.next n1) tk f⟩⟩
theorem s_aug (k : Nat) {n : Str} {pos' : Pos} (hx0 : G[k]? = some (.vl tI i)) (he : E X G e tI j) (h : R.nx (G.set k (.vl tI (i + j)))) (hN : X.N.Nodup) (hi : X.N[k]? = some n := by rfl) (hx : Loc X.env.scope n := by first | exact Or.inl rfl | exact Or.inr rfl)
    (hf : X.fn n = true ∨ X.env.scope.names.lookup n = some .local := by first | exact .inl rfl | exact .inr rfl) : S1 X G (.AugAssign (.Name n pos') .Add e pos) R := ⟨fun D E S tk f => by
  obtain ⟨v, e1, r⟩ := S.get hx0
  exact ⟨_, ps_aug hN hi hx pe_w ip_add hf, v, e1, he.run S _ fun w M1 H1 n1 r1 => ⟨i, j, r, r1, f.nx ((S.next n1).set (s := .vl tI (i + j)) rfl) h⟩⟩⟩
theorem s_augS (k : Nat) {n : Str} {pos' : Pos} (hx0 : G[k]? = some (.vl tI i)) (he : E X G e tI j) (h : R.nx (G.set k (.vl tI (i - j)))) (hN : X.N.Nodup) (hi : X.N[k]? = some n := by rfl) (hx : Loc X.env.scope n := by first | exact Or.inl rfl | exact Or.inr rfl)
    (hf : X.fn n = true ∨ X.env.scope.names.lookup n = some .local := by first | exact .inl rfl | exact .inr rfl) : S1 X G (.AugAssign (.Name n pos') .Sub e pos) R := ⟨fun D E S tk f => by
  obtain ⟨v, e1, r⟩ := S.get hx0
  exact ⟨_, ps_aug hN hi hx pe_w ip_sub hf, v, e1, he.run S _ fun w M1 H1 n1 r1 => ⟨i, j, r, r1, f.nx ((S.next n1).set (s := .vl tI (i - j)) rfl) h⟩⟩⟩
/-- xs.append(e) -/
theorem s_app (k : Nat) {n : Str} {p1 apos cpos : Pos} (h0 : G[k]? = some (.ow s xs)) (he : E X G e s x) (hz : xs.length < 1000000) (h : R.nx (G.set k (.ow s (xs ++ [x])))) (hi : X.N[k]? = some n := by rfl)
    (hv : Vis X.env.scope n := by first | exact Or.inl rfl | exact Or.inr (Or.inl rfl) | exact Or.inr (Or.inr rfl))
    (hd : (n == ("__debug__" : Str)) = false := by decide) (hcd : (n == ("__classdict__" : Str)) = false := by decide)
    (hst : starEach [e] X.env = (false, eval e X.env) :: starEach [] X.env := by rfl)
    (hbase : attributeBase (.Name n p1) "append" X.env (eval (.Name n p1) X.env) = eval (.Name n p1) X.env := by rfl)
    (hfew : ((backTo cpos (starEach [e] X.env)).all (fun x => !x.1) && (backToKw cpos (keywordEach [] X.env)).all (fun x => x.1.isSome)
      && decide ([e].length + ([] : List Keyword).length + (if ([] : List Keyword).isEmpty then 0 else 1) < 30)) = true := by rfl)
    (hline : (apos.endLine == cpos.line) = true := by rfl) (hplain : (backTo cpos (starEach [] X.env)).any (·.1) = false := by rfl)
    (hs : swapsWith (.Call (.Attribute (.Name n p1) "append" apos) [e] [] cpos) none pos.line X.env = pure false := by rfl) :
    S1 X G (.Expr (.Call (.Attribute (.Name n p1) "append" apos) [e] [] cpos) pos) R := ⟨fun D E S tk f => by
  obtain ⟨a0, vs0, e0, hh0, _, _, _⟩ := S.putOwn (ys := xs) h0
  refine ⟨_, ps_expr (pe_bm PySem.F.plainAttrs_list PySem.F.slot_list_append PySem.F.type_list_append mt_append (pe_var hi hv hd hcd) (pa_cons pe_w pa_nil hst) hbase hfew hline hst hplain) hs, ?_⟩
  refine ⟨.ref a0, e0, .inl ⟨rfl, vs0, SqL.of hh0⟩, he.run S _ fun v M1 H1 n1 r1 => ?_⟩
  have S1 := S.next n1
  obtain ⟨a, vs, e1, hh, mp, pr, upd'⟩ := S1.putOwn (ys := xs ++ [x]) h0
  rw [e0] at e1
  cases e1
  refine ⟨a0, vs, v, rfl, rfl, hh, by rw [pr.length]; exact Nat.lt_of_lt_of_le hz (by decide), f.nx (upd' _ (paired_app pr (.cons r1 .nil))) h⟩⟩
/-- xs[i] = e, xs of the frame's own -/
theorem s_seti (k : Nat) {n : Str} {p1 : Pos} {ib : Expr} {m : Nat} (h0 : G[k]? = some (.ow s xs)) (he : E X G e s x) (hib : E X G ib tI i) (hm : ixN xs.length i = some m) (h : R.nx (G.set k (.ow s (xs.set m x)))) (hi : X.N[k]? = some n := by rfl)
    (hv : Vis X.env.scope n := by first | exact Or.inl rfl | exact Or.inr (Or.inl rfl) | exact Or.inr (Or.inr rfl))
    (hd : (n == ("__debug__" : Str)) = false := by decide) (hcd : (n == ("__classdict__" : Str)) = false := by decide) {p2 : Pos}
    (ha : ∀ v, assign (.Subscript (.Name n p1) ib p2) X.env v = (do
      let ov ← holding [v] (eval (.Name n p1) X.env)
      let iv ← holding [v, ov] (eval ib X.env)
      standAt p2
      holding [v, ov, iv] (setItem ov iv v)
      release [v, ov, iv] []) := by intro _; rfl)
    (hs : swapsWithSole [.Subscript (.Name n p1) ib p2] e pos.line X.env = pure false := by rfl) (hw : swappedStores [.Subscript (.Name n p1) ib p2] e X.env = pure none := by rfl)
    (h1 : (assignEach [.Subscript (.Name n p1) ib p2] X.env).map (·.2) = [assign (.Subscript (.Name n p1) ib p2) X.env] := by rfl) :
    S1 X G (.Assign [.Subscript (.Name n p1) ib p2] e pos) R := ⟨fun D E S tk f => by
  refine ⟨_, ps_asg pe_w (pg_sub (pe_var hi hv hd hcd) pe_w set_list ha) hs hw h1, ?_⟩
  refine he.run S _ fun v M1 H1 n1 r1 => ?_
  obtain ⟨a0, vs0, e0, hh0, _, _, _⟩ := (S.next n1).putOwn (ys := xs) h0
  refine ⟨.ref a0, e0, hib.run (S.next n1) _ fun w M2 H2 n2 r2 => ?_⟩
  obtain ⟨a, vs, e1, hh, mp, pr, upd'⟩ := (S.next (n1.trans n2)).putOwn (ys := xs.set m x) h0
  rw [e0] at e1
  cases e1
  exact ⟨a0, vs, i, m, rfl, r2, hh, by rw [pr.length]; exact hm, f.nx (upd' _ (paired_set (s.ext n2.vx r1) m pr)) h⟩⟩

theorem set_same {G : List Sl} {k : Nat} {u : Sl} (h : G[k]? = some u) : G.set k u = G := by
  apply List.ext_getElem?
  intro j
  by_cases hj : k = j
  · subst hj
    rw [List.getElem?_set_self (List.getElem?_eq_some_iff.mp h).1, h]
  · rw [List.getElem?_set_ne hj]
/-- if c: x = e -/
theorem s_ifSet (k : Nat) {n : Str} {pos' pos2 : Pos} {x y : α} (h0 : G[k]? = some (.vl s x)) (ht : T X G c p) (he : p = true → E X G e s y) (h : R.nx (G.set k (.vl s (if p = true then y else x)))) (hN : X.N.Nodup) (hi : X.N[k]? = some n := by rfl) (hx : Loc X.env.scope n := by first | exact Or.inl rfl | exact Or.inr rfl)
    (hs : swapsWith e (some (.Name n pos')) pos2.line X.env = pure false := by rfl) (hf : X.fn n = true ∨ X.env.scope.names.lookup n = some .local := by first | exact .inl rfl | exact .inr rfl) : S1 X G (.If c [.Assign [.Name n pos'] e pos2] [] pos) R := by
  refine s_if ht (fun hp => ?_) (fun hp => ?_)
  · rw [if_pos hp] at h
    exact b_cons (s_set k (he hp) (b_nil h) hN hi hx hs hf)
  · rw [if_neg (by rw [hp]; decide), set_same h0] at h
    exact b_nil h
/-! ### loops -/
theorem s_forT (k : Nat) {n : Str} {pn : Pos} (I : Nat → List Sl → Prop) (G0 : List Sl) (he : E X G a (tTup s) xs) (w0 : Sub G G0) (h0 : I 0 G0)
    (hs : ∀ m x G', xs[m]? = some x → I m G' → B X (G'.set k (.vl s x)) body ⟨I (m + 1), R.rt, R.nx, I (m + 1), R.xc⟩) (hd : ∀ G', I xs.length G' → R.nx G')
    (hN : X.N.Nodup) (hcm : X.calm = true) (hi : X.N[k]? = some n := by rfl) (hx : Loc X.env.scope n := by first | exact Or.inl rfl | exact Or.inr rfl) (hf : X.fn n = true ∨ X.env.scope.names.lookup n = some .local := by first | exact .inl rfl | exact .inr rfl)
    (hp : PassesOwn (model X.prog X.w) X.A X.env X.xe := by first | exact PassesOwn.never | assumption)
    (hfs : ∀ x, foldedSetIterable a X.env x = pure x := by intro _; rfl) : S1 X G (.For (.Name n pn) a body [] pos) R := ⟨fun {M0 H0 M H σ} D E S tk f =>
  ⟨_, ps_for hp hcm (pi_tup pe_w) (pg_name (pos := pn) hN hi hx hf) pss_w hfs, he.run S _ fun v M1 H1 n1 r1 => by
    obtain ⟨p, vs, e1, e2, e3⟩ := r1
    have n0 := S.nx.trans n1
    refine ⟨p, e1, ⟨vs, sqT_ext n1.sub e2⟩, for_tup (K := X.K) (a := p) (xs := vs) (fun m σ' H' => ∃ M' G', St X.K M1 H0 M' H' σ' G' ∧ I m G') ⟨M1, G0, ((S.next n1).weak w0).rebase, h0⟩ (fun m σ' H' _ ⟨M', G', S', _⟩ => sqT_ext (S'.nx.vx.trans S'.sub) e2) ?_ ?_⟩
    · rintro m w σ' H' hm ⟨M', G', S', hI⟩
      obtain ⟨x', g1, g2⟩ := paired_get' e3 hm
      exact (hs m x' G' g1 hI).run _ E (S'.set (s := .vl s x') (v := w) (s.ext S'.nx.vx g2)) tk ⟨fun S2 h2 => ⟨_, _, S2, h2⟩, fun n2 h2 => f.rt (n0.unbase n2) h2, fun S2 h2 => f.nx (S2.unbase n0) h2, fun S2 h2 => ⟨_, _, S2, h2⟩, fun S2 h2 => f.xc (S2.unbase n0) h2⟩
    · rintro σ' H' ⟨M', G', S', hI⟩
      rw [e3.length] at hI
      exact f.nx (S'.unbase n0) (hd G' hI)⟩⟩
theorem s_forL (k : Nat) {n : Str} {pn : Pos} (I : Nat → List Sl → Prop) (G0 : List Sl) (he : E X G a (tLst s) xs) (w0 : Sub G G0) (h0 : I 0 G0)
    (hs : ∀ m x G', xs[m]? = some x → I m G' → B X (G'.set k (.vl s x)) body ⟨I (m + 1), R.rt, R.nx, I (m + 1), R.xc⟩) (hd : ∀ G', I xs.length G' → R.nx G')
    (hN : X.N.Nodup) (hcm : X.calm = true) (hi : X.N[k]? = some n := by rfl) (hx : Loc X.env.scope n := by first | exact Or.inl rfl | exact Or.inr rfl) (hf : X.fn n = true ∨ X.env.scope.names.lookup n = some .local := by first | exact .inl rfl | exact .inr rfl)
    (hp : PassesOwn (model X.prog X.w) X.A X.env X.xe := by first | exact PassesOwn.never | assumption)
    (hfs : ∀ x, foldedSetIterable a X.env x = pure x := by intro _; rfl) : S1 X G (.For (.Name n pn) a body [] pos) R := ⟨fun {M0 H0 M H σ} D E S tk f =>
  ⟨_, ps_for hp hcm (pi_list pe_w) (pg_name (pos := pn) hN hi hx hf) pss_w hfs, he.run S _ fun v M1 H1 n1 r1 => by
    obtain ⟨p, vs, e1, e2, e3⟩ := r1
    have n0 := S.nx.trans n1
    refine ⟨p, e1, ⟨vs, SqL.of (n1.sub _ _ e2)⟩, for_list (K := X.K) (a := p) (xs := vs) (fun m σ' H' => ∃ M' G', St X.K M1 H0 M' H' σ' G' ∧ I m G') ⟨M1, G0, ((S.next n1).weak w0).rebase, h0⟩ (fun m σ' H' _ ⟨M', G', S', _⟩ => SqL.of (S'.sub _ _ (S'.nx.vx _ _ e2))) ?_ ?_⟩
    · rintro m w σ' H' hm ⟨M', G', S', hI⟩
      obtain ⟨x', g1, g2⟩ := paired_get' e3 hm
      exact (hs m x' G' g1 hI).run _ E (S'.set (s := .vl s x') (v := w) (s.ext S'.nx.vx g2)) tk ⟨fun S2 h2 => ⟨_, _, S2, h2⟩, fun n2 h2 => f.rt (n0.unbase n2) h2, fun S2 h2 => f.nx (S2.unbase n0) h2, fun S2 h2 => ⟨_, _, S2, h2⟩, fun S2 h2 => f.xc (S2.unbase n0) h2⟩
    · rintro σ' H' ⟨M', G', S', hI⟩
      rw [e3.length] at hI
      exact f.nx (S'.unbase n0) (hd G' hI)⟩⟩
theorem s_forS (k : Nat) {n : Str} {pn : Pos} (I : Nat → List Sl → Prop) (G0 : List Sl) (he : E X G a (tSq s) xs) (w0 : Sub G G0) (h0 : I 0 G0)
    (hs : ∀ m x G', xs[m]? = some x → I m G' → B X (G'.set k (.vl s x)) body ⟨I (m + 1), R.rt, R.nx, I (m + 1), R.xc⟩) (hd : ∀ G', I xs.length G' → R.nx G')
    (hN : X.N.Nodup) (hcm : X.calm = true) (hi : X.N[k]? = some n := by rfl) (hx : Loc X.env.scope n := by first | exact Or.inl rfl | exact Or.inr rfl) (hf : X.fn n = true ∨ X.env.scope.names.lookup n = some .local := by first | exact .inl rfl | exact .inr rfl)
    (hp : PassesOwn (model X.prog X.w) X.A X.env X.xe := by first | exact PassesOwn.never | assumption)
    (hfs : ∀ x, foldedSetIterable a X.env x = pure x := by intro _; rfl) : S1 X G (.For (.Name n pn) a body [] pos) R := ⟨fun {M0 H0 M H σ} D E S tk f =>
  ⟨_, ps_for hp hcm (pi_list pe_w) (pg_name (pos := pn) hN hi hx hf) pss_w hfs, he.run S _ fun v M1 H1 n1 r1 => by
    obtain ⟨p, vs, e1, e2, e3⟩ := r1
    have n0 := S.nx.trans n1
    refine ⟨p, e1, ⟨vs, sqL_ext n1.sub e2⟩, for_list (K := X.K) (a := p) (xs := vs) (fun m σ' H' => ∃ M' G', St X.K M1 H0 M' H' σ' G' ∧ I m G') ⟨M1, G0, ((S.next n1).weak w0).rebase, h0⟩ (fun m σ' H' _ ⟨M', G', S', _⟩ => sqL_ext (S'.nx.vx.trans S'.sub) e2) ?_ ?_⟩
    · rintro m w σ' H' hm ⟨M', G', S', hI⟩
      obtain ⟨x', g1, g2⟩ := paired_get' e3 hm
      exact (hs m x' G' g1 hI).run _ E (S'.set (s := .vl s x') (v := w) (s.ext S'.nx.vx g2)) tk ⟨fun S2 h2 => ⟨_, _, S2, h2⟩, fun n2 h2 => f.rt (n0.unbase n2) h2, fun S2 h2 => f.nx (S2.unbase n0) h2, fun S2 h2 => ⟨_, _, S2, h2⟩, fun S2 h2 => f.xc (S2.unbase n0) h2⟩
    · rintro σ' H' ⟨M', G', S', hI⟩
      rw [e3.length] at hI
      exact f.nx (S'.unbase n0) (hd G' hI)⟩⟩
/-- for x in range(n) -/
theorem s_forR (k : Nat) {n : Str} {pn p1 p2 : Pos} (I : Nat → List Sl → Prop) (G0 : List Sl) (hm : X.mg "range" = none) (he : E X G a tI i) (hz : -4611686018427387904 ≤ i ∧ i < 4611686018427387904) (w0 : Sub G G0) (h0 : I 0 G0)
    (hs : ∀ (m : Nat) G', (m : Int) < i → I m G' → B X (G'.set k (.vl tI (m : Int))) body ⟨I (m + 1), R.rt, R.nx, I (m + 1), R.xc⟩) (hd : ∀ G', I i.toNat G' → R.nx G')
    (hN : X.N.Nodup) (hcm : X.calm = true) (hi : X.N[k]? = some n := by rfl) (hx : Loc X.env.scope n := by first | exact Or.inl rfl | exact Or.inr rfl) (hf : X.fn n = true ∨ X.env.scope.names.lookup n = some .local := by first | exact .inl rfl | exact .inr rfl)
    (hp : PassesOwn (model X.prog X.w) X.A X.env X.xe := by first | exact PassesOwn.never | assumption)
    (hg : Gl X "range" := by rfl) (hst : starEach [a] X.env = [(false, eval a X.env)] := by rfl)
    (hfs : ∀ x, foldedSetIterable (.Call (.Name "range" p1) [a] [] p2) X.env x = pure x := by intro _; rfl) : S1 X G (.For (.Name n pn) (.Call (.Name "range" p1) [a] [] p2) body [] pos) R := ⟨fun {M0 H0 M H σ} D E S tk f =>
  ⟨_, ps_for hp hcm (pi_range1 hg hm (pa_cons pe_w pa_nil hst) hst) (pg_name (pos := pn) hN hi hx hf) pss_w hfs, he.run S _ fun v M1 H1 n1 r1 => by
    have n0 := S.nx.trans n1
    refine ⟨i, by rw [show v = V.int i from r1], hz.1, hz.2, for_range (lo := 0) (n := i.toNat) (fun m σ' H' => ∃ M' G', St X.K M1 H0 M' H' σ' G' ∧ I m G') ⟨M1, G0, ((S.next n1).weak w0).rebase, h0⟩ ?_ ?_⟩
    · rintro m σ' H' hm' ⟨M', G', S', hI⟩
      have e0 : (0 : Int) + (m : Int) = (m : Int) := Int.zero_add _
      rw [e0]
      exact (hs m G' (by omega) hI).run _ E (S'.set (s := .vl tI (m : Int)) (v := .int m) rfl) tk ⟨fun S2 h2 => ⟨_, _, S2, h2⟩, fun n2 h2 => f.rt (n0.unbase n2) h2, fun S2 h2 => f.nx (S2.unbase n0) h2, fun S2 h2 => ⟨_, _, S2, h2⟩, fun S2 h2 => f.xc (S2.unbase n0) h2⟩
    · rintro σ' H' ⟨M', G', S', hI⟩
      exact f.nx (S'.unbase n0) (hd G' hI)⟩⟩
/-- for x in range(lo, n) -/
theorem s_forR2 (k : Nat) {n : Str} {pn p1 p2 : Pos} (I : Nat → List Sl → Prop) (G0 : List Sl) (hm : X.mg "range" = none) (he : E X G a tI i) (he2 : E X G b tI j) (hz : (-4611686018427387904 ≤ i ∧ i < 4611686018427387904) ∧ -4611686018427387904 ≤ j ∧ j < 4611686018427387904) (w0 : Sub G G0) (h0 : I 0 G0)
    (hs : ∀ (m : Nat) G', i + (m : Int) < j → I m G' → B X (G'.set k (.vl tI (i + m))) body ⟨I (m + 1), R.rt, R.nx, I (m + 1), R.xc⟩) (hd : ∀ G', I (j - i).toNat G' → R.nx G')
    (hN : X.N.Nodup) (hcm : X.calm = true) (hi : X.N[k]? = some n := by rfl) (hx : Loc X.env.scope n := by first | exact Or.inl rfl | exact Or.inr rfl) (hf : X.fn n = true ∨ X.env.scope.names.lookup n = some .local := by first | exact .inl rfl | exact .inr rfl)
    (hp : PassesOwn (model X.prog X.w) X.A X.env X.xe := by first | exact PassesOwn.never | assumption)
    (hg : Gl X "range" := by rfl) (hst : starEach [a, b] X.env = [(false, eval a X.env), (false, eval b X.env)] := by rfl) (hst2 : starEach [b] X.env = [(false, eval b X.env)] := by rfl)
    (hfs : ∀ x, foldedSetIterable (.Call (.Name "range" p1) [a, b] [] p2) X.env x = pure x := by intro _; rfl) : S1 X G (.For (.Name n pn) (.Call (.Name "range" p1) [a, b] [] p2) body [] pos) R := ⟨fun {M0 H0 M H σ} D E S tk f =>
  ⟨_, ps_for hp hcm (pi_range2 hg hm (pa_cons pe_w (pa_cons pe_w pa_nil hst2) (by rw [hst, hst2])) hst hst2) (pg_name (pos := pn) hN hi hx hf) pss_w hfs, he.run S _ fun v M1 H1 n1 r1 => he2.run (S.next n1) _ fun v' M2 H2 n2 r2 => by
    have n0 := S.nx.trans (n1.trans n2)
    refine ⟨i, j, by rw [show v = V.int i from r1, show v' = V.int j from r2], ⟨hz.1.1, hz.1.2, hz.2.1, hz.2.2⟩, for_range (lo := i) (n := (j - i).toNat) (fun m σ' H' => ∃ M' G', St X.K M2 H0 M' H' σ' G' ∧ I m G') ⟨M2, G0, ((S.next (n1.trans n2)).weak w0).rebase, h0⟩ ?_ ?_⟩
    · rintro m σ' H' hm' ⟨M', G', S', hI⟩
      exact (hs m G' (by omega) hI).run _ E (S'.set (s := .vl tI (i + m)) (v := .int (i + m)) rfl) tk ⟨fun S2 h2 => ⟨_, _, S2, h2⟩, fun n2 h2 => f.rt (n0.unbase n2) h2, fun S2 h2 => f.nx (S2.unbase n0) h2, fun S2 h2 => ⟨_, _, S2, h2⟩, fun S2 h2 => f.xc (S2.unbase n0) h2⟩
    · rintro σ' H' ⟨M', G', S', hI⟩
      exact f.nx (S'.unbase n0) (hd G' hI)⟩⟩
theorem s_while (I : Nat → List Sl → Prop) (G0 : List Sl) (m0 : Nat) (w0 : Sub G G0) (h0 : I m0 G0)
    (hs : ∀ (m : Nat) G', I m G' → ∃ d, T X G' c d ∧ (d = true → B X G' body ⟨fun G2 => ∃ m', m' < m ∧ I m' G2, R.rt, R.nx, fun G2 => ∃ m', m' < m ∧ I m' G2, R.xc⟩) ∧ (d = false → R.nx G'))
    (hp : PassesOwn (model X.prog X.w) X.A X.env X.xe := by first | exact PassesOwn.never | assumption) : S1 X G (.While c body [] pos) R := ⟨fun {M0 H0 M H σ} D E S tk f =>
  ⟨_, ps_while hp pt_w pss_w, fun m σ' H' => ∃ M' G', St X.K M0 H0 M' H' σ' G' ∧ I m G', ⟨m0, M, G0, S.weak w0, h0⟩, by
    rintro m σ' H' ⟨M', G', S', hI⟩
    obtain ⟨d, ht, h1, h2⟩ := hs m G' hI
    refine ht.run S' _ fun M1 H1 n1 => ?_
    cases d with
    | true =>
      rw [if_pos rfl]
      refine ⟨fun σ' H' => ∃ m', m' < m ∧ ∃ M' G', St X.K M0 H0 M' H' σ' G' ∧ I m' G', fun _ _ h => h, ?_⟩
      exact (h1 rfl).run _ E (S'.next n1) tk ⟨fun S2 ⟨m', l, h⟩ => ⟨m', l, _, _, S2, h⟩, f.rt, f.nx, fun S2 ⟨m', l, h⟩ => ⟨m', l, _, _, S2, h⟩, f.xc⟩
    | false =>
      rw [if_neg (by decide)]
      exact f.nx (S'.next n1) (h2 rfl)⟩⟩
end
end TL

namespace TL
open PySem PySem.Spec PyProof.Rows L2

/-! ### defs -/
/-- the promise of a def that raises nothing -/
def spG {ι ρ : Type} (K : Fg) (ar : ι → List Sl) (pre : ι → Prop) (t : Ty ρ) (out : ι → ρ) : Sp := fun vs H Q _ =>
  ∃ (i : ι) (M : Hp), Same M H ∧ Reps K M vs (ar i) ∧ pre i ∧ ∀ v M' H', Nx M H M' H' → t.rep K M' v (out i) → Q v H'
/-- the promise of a def that may raise -/
def spR {ι : Type} (K : Fg) (ar : ι → List Sl) (pre : ι → Prop) (rt : ι → Hp → V → Prop) (xc : ι → Value → Option Addr → Hp → Prop) : Sp := fun vs H Q E =>
  ∃ (i : ι) (M : Hp), Same M H ∧ Reps K M vs (ar i) ∧ pre i ∧ (∀ v M' H', Nx M H M' H' → rt i M' v → Q v H') ∧ ∀ c d M' H', Nx M H M' H' → xc i c d M' → E c d H'
def Ret {ρ : Type} (K : Fg) (t : Ty ρ) (y : ρ) : Out := { nx := fun _ => ∀ M, t.rep K M .non y, rt := fun M v => t.rep K M v y }
theorem reps_len {K : Fg} {M : Hp} : ∀ {vs : List V} {ss : List Sl}, Reps K M vs ss → vs.length = ss.length
  | _, _, .nil => rfl
  | _, _, .cons _ r => by simp [reps_len r]
theorem reps_get {K : Fg} {M : Hp} : ∀ {vs : List V} {ss : List Sl} {i : Nat} {s : Sl}, Reps K M vs ss → ss[i]? = some s → ∃ v, vs[i]? = some v ∧ RepS K M v s
  | _, _, _, _, .nil, e => by simp at e
  | _, _, 0, _, .cons h _, e => by simp at e; subst e; exact ⟨_, rfl, h⟩
  | _, _, i + 1, s, .cons _ r, e => by
    obtain ⟨u, h1, h2⟩ := reps_get (i := i) (s := s) r (by simpa using e)
    exact ⟨u, by simpa using h1, h2⟩
theorem reps_noown {K : Fg} {M : Hp} : ∀ {vs : List V} {ss : List Sl} {i : Nat} {s : Sl}, Reps K M vs ss → ss[i]? = some s → s.own = false
  | _, _, _, _, .nil, e => by simp at e
  | _, _, 0, _, .cons _ _, e => by simp at e; subst e; rfl
  | _, _, i + 1, s, .cons _ r, e => reps_noown (i := i) r (by simpa using e)
/-- the state at a def's entry -/
theorem st_start {K : Fg} {M H : Hp} {vs : List V} {ss : List Sl} {N : List Str} {n : Nat} (m : Same M H) (r : Reps K M vs ss) (hn : N.length = ss.length + n) : St K M H M H (L2.start N vs) (ss ++ List.replicate n .un) := by
  have hl := reps_len r
  refine ⟨Nx.refl m, ?_, fun _ => [], fun i s e => ?_, fun i j s t e1 e2 o1 o2 ne x hx => ?_⟩
  · unfold L2.start
    rw [List.length_append, List.length_append, List.length_map, List.length_replicate, List.length_replicate, hl]
    omega
  · unfold L2.start
    by_cases h : i < ss.length
    · rw [List.getElem?_append_left h] at e
      obtain ⟨v, q1, q2⟩ := reps_get r e
      refine ⟨some v, ?_, ?_⟩
      · rw [List.getElem?_append_left (by rw [List.length_map, hl]; exact h), List.getElem?_map, q1]; rfl
      · cases s with
        | un => trivial
        | vl t x => exact ⟨v, rfl, q2⟩
        | ow t xs => exact q2.elim
        | o2 t xs => exact q2.elim
        | ob p dx C fs => exact q2.elim
        | ox c => exact q2.elim
    · have h' : ss.length ≤ i := Nat.le_of_not_lt h
      rw [List.getElem?_append_right h'] at e
      have e2 := (List.getElem?_eq_some_iff.mp e)
      obtain ⟨l, e3⟩ := e2
      rw [List.getElem_replicate] at e3
      subst e3
      rw [List.length_replicate] at l
      refine ⟨none, ?_, trivial⟩
      rw [List.getElem?_append_right (by rw [List.length_map, hl]; exact h'), List.length_map, hl, List.getElem?_replicate, if_pos (by omega)]
  · have : s.own = false := by
      by_cases h : i < ss.length
      · rw [List.getElem?_append_left h] at e1; exact reps_noown r e1
      · rw [List.getElem?_append_right (Nat.le_of_not_lt h)] at e1
        obtain ⟨l, e3⟩ := List.getElem?_eq_some_iff.mp e1
        rw [List.getElem_replicate] at e3
        subst e3; rfl
    rw [this] at o1; cases o1
theorem takes_false {X : Cx} : L2N.Takes X (fun _ _ _ _ => False) := fun u s' ⟨_, _, _, _, _, _, _, _, _, _, _, _, _, _, _, _, w⟩ => w.elim
section
variable {P : Program} {w : World} {K : Fg} {mg : Str → Option Value} {base : Heap} {ι ρ : Type}
theorem fn_ok {x qual : Str} {st : Stmt} {f : Addr} {fd : FuncData} {N ps : List Str} {k : Nat} {ar : ι → List Sl} {pre : ι → Prop} {t : Ty ρ} {out : ι → ρ} (F : Fun K x qual st f fd) (S : FnScope N ps (defScope st)) (n : Nat)
    (hn : N.length = ps.length + n) (hl : ∀ i, (ar i).length = ps.length)
    (hb : ∀ (cdv : Value) (A : Around) (outer : List Env) (s : Shared) (H : Hp) (E : XK), Room k (A.deeper (envOfC qual (defScope st) s.heap.objs.size f cdv)) → ∀ i, pre i →
      B (cxOf CX0 P w K mg base N qual (defScope st) f cdv A outer s H E).nox (ar i ++ List.replicate n .un) (defBody st) (Ret K t (out i))) : FnOk P w K mg base CX0 (k + 1) f fd ps (spG K ar pre t out) := by
  refine F.ok S (fun vs H Q E h => ?_) (fun cdv A outer s H vs Q E hr h => ⟨_, pss_w, ?_⟩)
  · obtain ⟨i, M, _, r, _⟩ := h
    rw [reps_len r, hl]
  · obtain ⟨i, M, m, r, hp, q⟩ := h
    refine (hb cdv A outer s H E hr i hp).run _ (fun _ _ _ _ => False) (st_start m r (by rw [hl]; exact hn)) takes_false ⟨fun S' h => ?_, fun n2 h => q _ _ _ n2 h, fun _ h => h.elim, fun _ h => h.elim, fun _ h => h.elim⟩
    exact q _ _ _ S'.nx (h _)
/-- as Fun.ok, for a def that may raise -/
theorem okXN {x qual : Str} {st : Stmt} {f : Addr} {fd : FuncData} {N ps : List Str} {k : Nat} {sp : Sp} (F : Fun K x qual st f fd) (S : FnScope N ps (defScope st)) (len : ∀ vs H Q E, sp vs H Q E → vs.length = ps.length)
    (hbody : ∀ (cdv : Value) (A : Around) (outer : List Env) (s : Shared) (H : Hp) (vs : List V) (Q : VK) (E : XK), Room k (A.deeper (envOfC qual (defScope st) s.heap.objs.size f cdv)) → sp vs H Q E →
      ∃ t, PSs (cxOf (L2N.CX P w) P w K mg base N qual (defScope st) f cdv A outer s H E) (defBody st) t ∧ t { nx := fun _ H' => Q .non H', rt := Q } (L2.start N vs) H) : FnOk P w K mg base (L2N.CX P w) (k + 1) f fd ps sp := by
  obtain ⟨oc, od, kV, doc, pm, an, cdv, ct, osl, rfl, lk, hcd⟩ := F.ex
  exact fn_of lk hcd S len fun A outer s H vs Q E hr hsp => hbody cdv A outer s H vs Q E hr hsp
/-- .. that may raise -/
theorem fn_okX {x qual : Str} {st : Stmt} {f : Addr} {fd : FuncData} {N ps : List Str} {k : Nat} {ar : ι → List Sl} {pre : ι → Prop} {rt : ι → Hp → V → Prop} {xc : ι → Value → Option Addr → Hp → Prop} (F : Fun K x qual st f fd) (S : FnScope N ps (defScope st)) (n : Nat)
    (hn : N.length = ps.length + n) (hl : ∀ i, (ar i).length = ps.length)
    (hb : ∀ (cdv : Value) (A : Around) (outer : List Env) (s : Shared) (H : Hp) (E : XK), Room k (A.deeper (envOfC qual (defScope st) s.heap.objs.size f cdv)) → ∀ i, pre i →
      B (cxOf (L2N.CX P w) P w K mg base N qual (defScope st) f cdv A outer s H E) (ar i ++ List.replicate n .un) (defBody st) { nx := fun _ => ∀ M, rt i M .non, rt := rt i, xc := fun c d M _ => xc i c d M }) : FnOk P w K mg base (L2N.CX P w) (k + 1) f fd ps (spR K ar pre rt xc) := by
  refine okXN F S (fun vs H Q E h => ?_) (fun cdv A outer s H vs Q E hr h => ⟨_, pss_w, ?_⟩)
  · obtain ⟨i, M, _, r, _⟩ := h
    rw [reps_len r, hl]
  · obtain ⟨i, M, m, r, hp, q, qx⟩ := h
    refine (hb cdv A outer s H E hr i hp).run _ (fun c d _ H => E c d H) (st_start m r (by rw [hl]; exact hn)) (L2N.takes_of rfl rfl rfl rfl) ⟨fun S' h => ?_, fun n2 h => q _ _ _ n2 h, fun _ h => h.elim, fun _ h => h.elim, fun S2 h => qx _ _ _ _ S2.nx h⟩
    exact q _ _ _ S'.nx (h _)
/-- a def as its callers know it -/
structure Fn (P : Program) (w : World) (K : Fg) (mg : Str → Option Value) (base : Heap) (CX : CXT) (k : Nat) (name : Str) (ps : List Str) (sp : Sp) : Prop where
  ex : ∃ f fd, mg name = some (.ref f) ∧ PySem.W.keepIn K (.ref f) = true ∧ Binds K fd ps [] ∧ FnOk P w K mg base CX k f fd ps sp
end
section
variable {α β γ ι ρ : Type} {X : Cx} {G : List Sl} {a b c e : Expr} {es rest : List Expr} {s : Ty α} {t : Ty β} {u : Ty γ} {x : α} {y : β} {z : γ} {pos : Pos} {k : Nat}
theorem e_call {P : Program} {w : World} {K : Fg} {mg : Str → Option Value} {base : Heap} {n : Str} {ps : List Str} {ar : ι → List Sl} {pre : ι → Prop} {tr : Ty ρ} {out : ι → ρ} {p : Pos} (C : Fn P w K mg base CX0 k n ps (spG K ar pre tr out)) (hr : Room k X.A) (i : ι) (ha : EA X G (e :: es) (ar i)) (hp : pre i)
    (hg : Gl X n := by rfl) (hdb : (n == ("__debug__" : Str)) = false := by decide) (he : starEach (e :: es) X.env = (false, eval e X.env) :: starEach es X.env := by rfl) (hpl : (backTo pos (starEach es X.env)).any (·.1) = false := by rfl)
    (xP : X.prog = P := by rfl) (xw : X.w = w := by rfl) (xK : X.K = K := by rfl) (xm : X.mg = mg := by rfl) (xb : X.base = base := by rfl) : E X G (.Call (.Name n p) (e :: es) [] pos) tr (out i) := ⟨fun S Q q => by
  subst xP xw xK xm xb
  obtain ⟨f, fd, hm, hk, hb, F⟩ := C.ex
  refine ⟨_, pe_call F hr hg hm hk hb .nil pass0 pa_w hdb he hpl, ha.run S _ fun vs M1 H1 n1 r1 => ?_⟩
  rw [List.append_nil]
  exact ⟨i, M1, n1.sub, r1, hp, fun v M2 H2 n2 r2 => q v M2 H2 (n1.trans n2) r2⟩⟩
theorem e_call0 {P : Program} {w : World} {K : Fg} {mg : Str → Option Value} {base : Heap} {n : Str} {ar : Unit → List Sl} {pre : Unit → Prop} {tr : Ty ρ} {out : Unit → ρ} {p : Pos} (C : Fn P w K mg base CX0 k n [] (spG K ar pre tr out)) (hr : Room k X.A) (h0 : ar () = []) (hp : pre ())
    (hg : Gl X n := by rfl) (hdb : (n == ("__debug__" : Str)) = false := by decide) (xP : X.prog = P := by rfl) (xw : X.w = w := by rfl) (xK : X.K = K := by rfl) (xm : X.mg = mg := by rfl) (xb : X.base = base := by rfl) : E X G (.Call (.Name n p) [] [] pos) tr (out ()) := ⟨fun {M0 H0 M H σ} S Q q => by
  subst xP xw xK xm xb
  obtain ⟨f, fd, hm, hk, hb, F⟩ := C.ex
  refine ⟨_, pe_call0 F hr hg hm hk hb .nil pass0 hdb, ?_⟩
  refine ⟨(), M, S.sub, by rw [h0]; exact .nil, hp, fun v M2 H2 n2 r2 => q v M2 H2 n2 r2⟩⟩

/-! ### what does not lean on lists -/
def TupS (K : Fg) (M M' : Hp) : Prop := ∀ a xs, SqT K M a xs → SqT K M' a xs
def Imm (K : Fg) (t : Ty α) : Prop := ∀ M M' v x, TupS K M M' → t.rep K M v x → t.rep K M' v x
theorem imm_I {K : Fg} : Imm K tI := fun _ _ _ _ _ h => h
theorem imm_B {K : Fg} : Imm K tB := fun _ _ _ _ _ h => h
theorem imm_S {K : Fg} : Imm K tS := fun _ _ _ _ _ h => h
theorem imm_N {K : Fg} : Imm K tN := fun _ _ _ _ _ h => h
theorem imm_T {K : Fg} {s : Ty α} (i : Imm K s) : Imm K (tTup s) := fun _ _ _ _ q ⟨a, vs, h1, h2, h3⟩ => ⟨a, vs, h1, q _ _ h2, paired_imp (fun _ _ z => i _ _ _ _ q z) h3⟩
theorem imm_O {K : Fg} {s : Ty α} (i : Imm K s) : Imm K (tO s) := fun _ _ _ x q h => by
  cases x with
  | none => exact h
  | some y => exact i _ _ _ _ q h
theorem imm_2 {K : Fg} {s : Ty α} {t : Ty β} (i : Imm K s) (j : Imm K t) : Imm K (tP2 s t) := fun _ _ _ _ q ⟨a, v1, v2, h1, h2, h3, h4⟩ => ⟨a, v1, v2, h1, q _ _ h2, i _ _ _ _ q h3, j _ _ _ _ q h4⟩
/-- an own list is read -/
theorem e_read (m : Nat) {s : Ty α} {xs : List α} (h : G[m]? = some (.ow s xs)) (hi : Imm X.K t) (he : E X (G.set m (.vl (tLst s) xs)) e t y) : E X G e t y := ⟨fun {M0 H0 M H σ} S Q q => by
  obtain ⟨a, vs, hh, ma, h0, S'⟩ := S.freeze h
  refine he.run S' _ fun v M' H' n r => ?_
  have am : M' a = some (.lst vs) := n.vx _ _ upd_same
  refine q v (fun b => if b = a then none else M' b) H' ⟨n.ex, fun b o e => ?_, fun b o e => ?_, fun b n1 n2 => ?_⟩ (hi _ _ _ _ (fun b xs e => ?_) r)
  · have hb : b ≠ a := ne_of_none e ma
    show (if b = a then none else M' b) = some o
    rw [if_neg hb]
    exact n.vx _ _ (by rw [upd_ne hb]; exact e)
  · have e' : (if b = a then none else M' b) = some o := e
    by_cases hb : b = a
    · rw [if_pos hb] at e'; cases e'
    · rw [if_neg hb] at e'; exact n.sub _ _ e'
  · show (if b = a then none else M' b) = none
    by_cases hb : b = a
    · rw [if_pos hb]
    · rw [if_neg hb]; exact n.fr b (by rw [upd_ne hb]; exact n1) n2
  · rcases e with e | e
    · have hb : b ≠ a := fun z => by
        subst z
        rcases e with e | ⟨o, e⟩
        · rw [am] at e; cases e
        · rw [am] at e; cases e
      refine .inl ?_
      rcases e with e | ⟨o, e⟩
      · exact .inl (by show (if b = a then none else M' b) = _; rw [if_neg hb]; exact e)
      · exact .inr ⟨o, by show (if b = a then none else M' b) = _; rw [if_neg hb]; exact e⟩
    · exact .inr e⟩
theorem t_read (m : Nat) {s : Ty α} {xs : List α} {d : Bool} (h : G[m]? = some (.ow s xs)) (he : T X (G.set m (.vl (tLst s) xs)) e d) : T X G e d := ⟨fun {M0 H0 M H σ} S Q q => by
  obtain ⟨a, vs, hh, ma, h0, S'⟩ := S.freeze h
  refine he.run S' _ fun M' H' n => ?_
  have am : M' a = some (.lst vs) := n.vx _ _ upd_same
  refine q (fun b => if b = a then none else M' b) H' ⟨n.ex, fun b o e => ?_, fun b o e => ?_, fun b n1 n2 => ?_⟩
  · have hb : b ≠ a := ne_of_none e ma
    show (if b = a then none else M' b) = some o
    rw [if_neg hb]
    exact n.vx _ _ (by rw [upd_ne hb]; exact e)
  · have e' : (if b = a then none else M' b) = some o := e
    by_cases hb : b = a
    · rw [if_pos hb] at e'; cases e'
    · rw [if_neg hb] at e'; exact n.sub _ _ e'
  · show (if b = a then none else M' b) = none
    by_cases hb : b = a
    · rw [if_pos hb]
    · rw [if_neg hb]; exact n.fr b (by rw [upd_ne hb]; exact n1) n2⟩
/-- .. for a new list of things that don't lean on lists -/
theorem el_read (m : Nat) {s : Ty α} {xs : List α} {ys : List β} (h : G[m]? = some (.ow s xs)) (hi : Imm X.K t) (he : EL X (G.set m (.vl (tLst s) xs)) e t ys) : EL X G e t ys := ⟨fun {M0 H0 M H σ} S Q q => by
  obtain ⟨a, vs, hh, ma, h0, S'⟩ := S.freeze h
  refine he.run S' _ fun p M' H' ws n hp mp hw r => ?_
  have am : M' a = some (.lst vs) := n.vx _ _ upd_same
  have pa : p ≠ a := fun z => by subst z; rw [hp] at hh; cases hh
  refine q p (fun b => if b = a then none else M' b) H' ws ⟨n.ex, fun b o e => ?_, fun b o e => ?_, fun b n1 n2 => ?_⟩ hp (by show (if p = a then none else M' p) = none; rw [if_neg pa]; exact mp) hw (paired_imp (fun v x r => hi _ _ _ _ (fun b xs e => ?_) r) r)
  · have hb : b ≠ a := ne_of_none e ma
    show (if b = a then none else M' b) = some o
    rw [if_neg hb]
    exact n.vx _ _ (by rw [upd_ne hb]; exact e)
  · have e' : (if b = a then none else M' b) = some o := e
    by_cases hb : b = a
    · rw [if_pos hb] at e'; cases e'
    · rw [if_neg hb] at e'; exact n.sub _ _ e'
  · show (if b = a then none else M' b) = none
    by_cases hb : b = a
    · rw [if_pos hb]
    · rw [if_neg hb]; exact n.fr b (by rw [upd_ne hb]; exact n1) n2
  · rcases e with e | e
    · have hb : b ≠ a := fun z => by
        subst z
        rcases e with e | ⟨o, e⟩
        · rw [am] at e; cases e
        · rw [am] at e; cases e
      refine .inl ?_
      rcases e with e | ⟨o, e⟩
      · exact .inl (by show (if b = a then none else M' b) = _; rw [if_neg hb]; exact e)
      · exact .inr ⟨o, by show (if b = a then none else M' b) = _; rw [if_neg hb]; exact e⟩
    · exact .inr e⟩

/-! ### comprehensions -/
/-- in the block: the context is any X' that the block makes -/
def Blk (X X' : Cx) (scope : Scope) : Prop := ∃ (s : Shared) (H : Hp) (C : Addr) (cl : List (Str × Addr)) (fp : List Addr), X' = X.blk s H scope (compEnvC scope cl C X.env) fp
variable {scope : Scope} {own : List (Str × Nat)} {n : Str} {pn : Pos}
theorem wiped {σ : L2.St} {v : V} {i : Nat} {vs : List Nat} (hi : i ∈ vs) : L2.wipe ((L2.wipe σ vs).set i (some v)) vs = L2.wipe σ vs := by
  have key : ∀ (us : List Nat) (τ : L2.St) (j : Nat), (L2.wipe τ us)[j]? = if j ∈ us then (if j < τ.length then some none else none) else τ[j]? := by
    intro us
    induction us with
    | nil => intro τ j; simp [L2.wipe]
    | cons u us ih =>
      intro τ j
      show ((L2.wipe τ us).set u none)[j]? = _
      by_cases hj : u = j
      · subst hj
        rw [List.getElem?_set]
        simp [wipe_length]
      · rw [List.getElem?_set_ne hj, ih τ j]
        have : (j ∈ u :: us) ↔ j ∈ us := by simp [Ne.symm hj]
        simp [this]
  apply List.ext_getElem?
  intro j
  rw [key, key]
  by_cases hj : j ∈ vs
  · rw [if_pos hj, if_pos hj]
    rw [List.length_set, wipe_length]
  · rw [if_neg hj, if_neg hj]
    rw [List.getElem?_set_ne (fun z => hj (by rw [← z]; exact hi)), key, if_neg hj]
/-- the element's reading in any block -/
def wBlk (X : Cx) (scope : Scope) (e : Expr) : TE := fun σ H Q => ∀ (s0 : Shared) (H' : Hp) (C : Addr) (cl : List (Str × Addr)) (fp : List Addr), wE (X.blk s0 H' scope (compEnvC scope cl C X.env) fp) e σ H Q
theorem pe_blk {X : Cx} {scope : Scope} {e : Expr} (s0 : Shared) (H' : Hp) (C : Addr) (cl : List (Str × Addr)) (fp : List Addr) : PE (X.blk s0 H' scope (compEnvC scope cl C X.env) fp) e (wBlk X scope e) :=
  ⟨fun pins s σ H Q I h => pe_w.run pins s σ H Q I (h s0 H' C cl fp)⟩
def wBlkT (X : Cx) (scope : Scope) (e : Expr) : TT := fun σ H Q => ∀ (s0 : Shared) (H' : Hp) (C : Addr) (cl : List (Str × Addr)) (fp : List Addr), wT (X.blk s0 H' scope (compEnvC scope cl C X.env) fp) e σ H Q
theorem pt_blk {X : Cx} {scope : Scope} {e : Expr} (s0 : Shared) (H' : Hp) (C : Addr) (cl : List (Str × Addr)) (fp : List Addr) : PT (X.blk s0 H' scope (compEnvC scope cl C X.env) fp) e (wBlkT X scope e) :=
  ⟨fun pins s σ H Q I h => pt_w.run pins s σ H Q I (h s0 H' C cl fp)⟩
/-- behind m turns of a comprehension: the list at D holds what is made -/
def LcI {β : Type} (K : Fg) (t : Ty β) (M1 H1 : Hp) (D : Addr) (ys : List β) (H : Hp) : Prop := ∃ M vs, Nx M1 H1 M H ∧ M D = none ∧ H D = some (.lst vs) ∧ Paired (t.rep K M) vs ys
theorem lcI_turn {X X' : Cx} {G : List Sl} {e : Expr} {t : Ty β} {y : β} {M0 H0 M1 H1 H : Hp} {D : Addr} {ys : List β} {σ : L2.St} (hK : X'.K = X.K) (hD : H1 D = none) (hI : LcI X.K t M1 H1 D ys H) (hz : ys.length < 1000000)
    (S : ∀ M, Nx M1 H1 M H → St X'.K M0 H0 M H σ G) (he : E X' G e t y) : wE X' e σ H fun v H4 => ∃ acc, H4 D = some (.lst acc) ∧ acc.length < sizeLine ∧ LcI X.K t M1 H1 D (ys ++ [y]) (upd H4 D (.lst (acc ++ [v]))) := by
  obtain ⟨M, vs, n, hm, hh, pr⟩ := hI
  refine he.run (S M n) _ fun v M' H' n' r => ?_
  have h4 := n'.ex _ _ hh
  have mD : M' D = none := n'.fr D hm (by rw [hh]; simp)
  have nn := n.trans n'
  refine ⟨vs, h4, by rw [pr.length]; exact Nat.lt_of_lt_of_le hz (by decide), M', vs ++ [v], ⟨fun b o q => ?_, nn.vx, fun b o q => ?_, nn.fr⟩, mD, upd_same, paired_app (paired_imp (fun _ _ q => t.ext n'.vx q) pr) (.cons (by rw [← hK]; exact r) .nil)⟩
  · rw [upd_ne (ne_of_none q hD)]; exact nn.ex b o q
  · rw [upd_ne (ne_of_none q mD)]; exact nn.sub b o q
theorem lcI_start {K : Fg} {t : Ty β} {M1 H1 : Hp} {D : Addr} (m : Same M1 H1) (hD : H1 D = none) : LcI K t M1 H1 D [] (upd H1 D (.lst [])) :=
  ⟨M1, [], nx_lay m hD, same_none m hD, upd_same, .nil⟩
theorem St.block {K : Fg} {M0 H0 M1 H1 M H : Hp} {σ : L2.St} {G : List Sl} (S : St K M0 H0 M1 H1 σ G) (n : Nx M1 H1 M H) (vs : List Nat) {α : Type} {s : Ty α} {x : α} {v : V} (i : Nat) (r : s.rep K M1 v x) : St K M0 H0 M H ((L2.wipe σ vs).set i (some v)) ((wipeG G vs).set i (.vl s x)) :=
  ((S.next n).wipe vs).set (s := .vl s x) (s.ext n.vx r)
theorem take_snoc {α : Type} {xs : List α} {m : Nat} {x : α} (h : xs[m]? = some x) : xs.take (m + 1) = xs.take m ++ [x] := by
  rw [List.take_add_one, h]; rfl
/-- a list comprehension, whatever becomes of its list -/
structure LC (X : Cx) (G : List Sl) (elt tg iter : Expr) (ifs : List Expr) (scope : Scope) (t : Ty β) (ys : List β) : Prop where
  ex : ∃ (wi : TI) (g : TG) (tt : TT) (te : TE) (own : List (Str × Nat)), PI X tg iter wi ∧ BlkOk X.N X.env.scope scope own ∧
    (∀ (s : Shared) (H : Hp) (C : Addr) (cl : List (Str × Addr)) (fp : List Addr), PG (X.blk s H scope (compEnvC scope cl C X.env) fp) tg g) ∧
    (∀ (s : Shared) (H : Hp) (C : Addr) (cl : List (Str × Addr)) (fp : List Addr), PTs (X.blk s H scope (compEnvC scope cl C X.env) fp) ifs tt) ∧
    (∀ (s : Shared) (H : Hp) (C : Addr) (cl : List (Str × Addr)) (fp : List Addr), PE (X.blk s H scope (compEnvC scope cl C X.env) fp) elt te) ∧ (∀ x, foldedSetIterable iter X.env x = pure x) ∧
    ∀ {M0 H0 M H : Hp} {σ : L2.St}, St X.K M0 H0 M H σ G → ∀ (Q : VK), (∀ p M' H' vs, Nx M H M' H' → H p = none → M' p = none → H' p = some (.lst vs) → Paired (t.rep X.K M') vs ys → Q (.ref p) H') → tLc wi g tt te (own.map (·.2)) σ H Q
theorem el_lc {elt tg iter : Expr} {ifs : List Expr} {ys : List β} (h : LC X G elt tg iter ifs scope t ys) (hcm : X.calm = true) (hN : X.N.Nodup) : EL X G (.ListComp elt [⟨tg, iter, ifs, 0⟩] scope pos) t ys := by
  obtain ⟨wi, g, tt, te, own, h1, h2, h3, h4, h5, h6, h7⟩ := h.ex
  exact ⟨fun S Q q => ⟨_, pe_lc hcm hN h1 h2 h3 h4 h5 h6, h7 S Q q⟩⟩
theorem s_lc (k : Nat) {elt tg iter : Expr} {ifs : List Expr} {ys : List β} {nm : Str} {py : Pos} {pos' : Pos} {R : Out} (h : LC X G elt tg iter ifs scope t ys) (hnx : R.nx (G.set k (.ow t ys))) (hcm : X.calm = true) (hN : X.N.Nodup) (hi : X.N[k]? = some nm := by rfl) (hy : X.env.scope.names.lookup nm = some .local := by rfl)
    (hsw : swapsWith (.ListComp elt [⟨tg, iter, ifs, 0⟩] scope pos) (some (.Name nm py)) pos'.line X.env = pure true := by first | exact sw_true rfl rfl rfl (by decide +kernel) | rfl) : S1 X G (.Assign [.Name nm py] (.ListComp elt [⟨tg, iter, ifs, 0⟩] scope pos) pos') R := by
  obtain ⟨wi, g, tt, te, own, h1, h2, h3, h4, h5, h6, h7⟩ := h.ex
  exact ⟨fun D E S tk f => ⟨_, ps_setLc hcm hN hi hy hsw h1 h2 h3 h4 h5 h6, h7 S _ fun p M1 H1 vs n1 hp mp hh r1 => f.nx (S.setOwn n1 hp mp hh r1) hnx⟩⟩
theorem lc_T {f : α → β} {xs : List α} (he : E X G a (tTup s) xs) (i : Nat)
    (hel : ∀ (s0 : Shared) (H : Hp) (C : Addr) (cl : List (Str × Addr)) (fp : List Addr) (m : Nat) (x : α), xs[m]? = some x → E (X.blk s0 H scope (compEnvC scope cl C X.env) fp) ((wipeG G (own.map (·.2))).set i (.vl s x)) e t (f x))
    (ok : BlkOk X.N X.env.scope scope own) (hz : xs.length ≤ 1000000)
    (hg : ∀ (s0 : Shared) (H : Hp) (C : Addr) (cl : List (Str × Addr)) (fp : List Addr), PG (X.blk s0 H scope (compEnvC scope cl C X.env) fp) (.Name n pn) (gName i)) (hio : i ∈ own.map (·.2) := by decide)
    (hs : ∀ x, foldedSetIterable a X.env x = pure x := by intro _; rfl) : LC X G e (.Name n pn) (a) [] scope t (xs.map f) := ⟨_, _, _, wBlk X scope e, own, (pi_tup pe_w), ok, hg, (fun _ _ _ _ _ => pts_nil), (fun s0 H C cl fp => pe_blk s0 H C cl fp), hs, fun {M0 H0 M H σ} S Q q => by
  refine he.run S _ fun v M1 H1 n1 r1 => ?_
  obtain ⟨p, vs, e1, e2, e3⟩ := r1
  refine ⟨p, e1, ⟨vs, sqT_ext n1.sub e2⟩, fun D hD => lc_tup (K := X.K) (a := p) (xs := vs) (fun m H' => LcI X.K t M1 H1 D ((xs.take m).map f) H') (lcI_start n1.sub hD) (fun m H' _ ⟨M', _, n', _⟩ => sqT_ext (n'.vx.trans n'.sub) e2) ?_ ?_⟩
  · intro m w H' hm hI
    obtain ⟨x', g1, g2⟩ := paired_get' e3 hm
    refine ⟨wiped hio, fun s0 H2 C cl fp => ?_⟩
    rw [take_snoc g1, List.map_append]
    have hl : ((xs.take m).map f).length < 1000000 := by
      have := (List.getElem?_eq_some_iff.mp g1).1
      rw [List.length_map, List.length_take]; omega
    exact lcI_turn (X := X) rfl hD hI hl (fun M' n' => St.block (S.next n1) n' _ i g2) (hel s0 H2 C cl fp m x' g1)
  · rintro H' ⟨M', ws, n', mD, hh, pr⟩
    rw [e3.length, List.take_length] at pr
    exact q D M' H' ws (n1.trans n') (n1.ex.free hD) mD hh pr⟩
theorem lc_L {f : α → β} {xs : List α} (he : E X G a (tLst s) xs) (i : Nat)
    (hel : ∀ (s0 : Shared) (H : Hp) (C : Addr) (cl : List (Str × Addr)) (fp : List Addr) (m : Nat) (x : α), xs[m]? = some x → E (X.blk s0 H scope (compEnvC scope cl C X.env) fp) ((wipeG G (own.map (·.2))).set i (.vl s x)) e t (f x))
    (ok : BlkOk X.N X.env.scope scope own) (hz : xs.length ≤ 1000000)
    (hg : ∀ (s0 : Shared) (H : Hp) (C : Addr) (cl : List (Str × Addr)) (fp : List Addr), PG (X.blk s0 H scope (compEnvC scope cl C X.env) fp) (.Name n pn) (gName i)) (hio : i ∈ own.map (·.2) := by decide)
    (hs : ∀ x, foldedSetIterable a X.env x = pure x := by intro _; rfl) : LC X G e (.Name n pn) (a) [] scope t (xs.map f) := ⟨_, _, _, wBlk X scope e, own, (pi_list pe_w), ok, hg, (fun _ _ _ _ _ => pts_nil), (fun s0 H C cl fp => pe_blk s0 H C cl fp), hs, fun {M0 H0 M H σ} S Q q => by
  refine he.run S _ fun v M1 H1 n1 r1 => ?_
  obtain ⟨p, vs, e1, e2, e3⟩ := r1
  refine ⟨p, e1, ⟨vs, SqL.of (n1.sub _ _ e2)⟩, fun D hD => lc_list (K := X.K) (a := p) (xs := vs) (fun m H' => LcI X.K t M1 H1 D ((xs.take m).map f) H') (lcI_start n1.sub hD) (fun m H' _ ⟨M', _, n', _⟩ => SqL.of (n'.sub _ _ (n'.vx _ _ e2))) ?_ ?_⟩
  · intro m w H' hm hI
    obtain ⟨x', g1, g2⟩ := paired_get' e3 hm
    refine ⟨wiped hio, fun s0 H2 C cl fp => ?_⟩
    rw [take_snoc g1, List.map_append]
    have hl : ((xs.take m).map f).length < 1000000 := by
      have := (List.getElem?_eq_some_iff.mp g1).1
      rw [List.length_map, List.length_take]; omega
    exact lcI_turn (X := X) rfl hD hI hl (fun M' n' => St.block (S.next n1) n' _ i g2) (hel s0 H2 C cl fp m x' g1)
  · rintro H' ⟨M', ws, n', mD, hh, pr⟩
    rw [e3.length, List.take_length] at pr
    exact q D M' H' ws (n1.trans n') (n1.ex.free hD) mD hh pr⟩
theorem lc_S {f : α → β} {xs : List α} (he : E X G a (tSq s) xs) (i : Nat)
    (hel : ∀ (s0 : Shared) (H : Hp) (C : Addr) (cl : List (Str × Addr)) (fp : List Addr) (m : Nat) (x : α), xs[m]? = some x → E (X.blk s0 H scope (compEnvC scope cl C X.env) fp) ((wipeG G (own.map (·.2))).set i (.vl s x)) e t (f x))
    (ok : BlkOk X.N X.env.scope scope own) (hz : xs.length ≤ 1000000)
    (hg : ∀ (s0 : Shared) (H : Hp) (C : Addr) (cl : List (Str × Addr)) (fp : List Addr), PG (X.blk s0 H scope (compEnvC scope cl C X.env) fp) (.Name n pn) (gName i)) (hio : i ∈ own.map (·.2) := by decide)
    (hs : ∀ x, foldedSetIterable a X.env x = pure x := by intro _; rfl) : LC X G e (.Name n pn) (a) [] scope t (xs.map f) := ⟨_, _, _, wBlk X scope e, own, (pi_list pe_w), ok, hg, (fun _ _ _ _ _ => pts_nil), (fun s0 H C cl fp => pe_blk s0 H C cl fp), hs, fun {M0 H0 M H σ} S Q q => by
  refine he.run S _ fun v M1 H1 n1 r1 => ?_
  obtain ⟨p, vs, e1, e2, e3⟩ := r1
  refine ⟨p, e1, ⟨vs, sqL_ext n1.sub e2⟩, fun D hD => lc_list (K := X.K) (a := p) (xs := vs) (fun m H' => LcI X.K t M1 H1 D ((xs.take m).map f) H') (lcI_start n1.sub hD) (fun m H' _ ⟨M', _, n', _⟩ => sqL_ext (n'.vx.trans n'.sub) e2) ?_ ?_⟩
  · intro m w H' hm hI
    obtain ⟨x', g1, g2⟩ := paired_get' e3 hm
    refine ⟨wiped hio, fun s0 H2 C cl fp => ?_⟩
    rw [take_snoc g1, List.map_append]
    have hl : ((xs.take m).map f).length < 1000000 := by
      have := (List.getElem?_eq_some_iff.mp g1).1
      rw [List.length_map, List.length_take]; omega
    exact lcI_turn (X := X) rfl hD hI hl (fun M' n' => St.block (S.next n1) n' _ i g2) (hel s0 H2 C cl fp m x' g1)
  · rintro H' ⟨M', ws, n', mD, hh, pr⟩
    rw [e3.length, List.take_length] at pr
    exact q D M' H' ws (n1.trans n') (n1.ex.free hD) mD hh pr⟩
/-- [e for i in range(n)] -/
theorem lc_R {f : Nat → β} {j : Int} {p1 p2 : Pos} (hm : X.mg "range" = none) (he : E X G a tI j) (hj : -1000000 ≤ j ∧ j ≤ 1000000) (i : Nat)
    (hel : ∀ (s0 : Shared) (H : Hp) (C : Addr) (cl : List (Str × Addr)) (fp : List Addr) (m : Nat), (m : Int) < j → E (X.blk s0 H scope (compEnvC scope cl C X.env) fp) ((wipeG G (own.map (·.2))).set i (.vl tI (m : Int))) e t (f m))
    (ok : BlkOk X.N X.env.scope scope own)
    (hg : ∀ (s0 : Shared) (H : Hp) (C : Addr) (cl : List (Str × Addr)) (fp : List Addr), PG (X.blk s0 H scope (compEnvC scope cl C X.env) fp) (.Name n pn) (gName i)) (hio : i ∈ own.map (·.2) := by decide)
    (hgr : Gl X "range" := by rfl) (hst : starEach [a] X.env = [(false, eval a X.env)] := by rfl)
    (hs : ∀ x, foldedSetIterable (.Call (.Name "range" p1) [a] [] p2) X.env x = pure x := by intro _; rfl) : LC X G e (.Name n pn) (.Call (.Name "range" p1) [a] [] p2) [] scope t ((List.range j.toNat).map f) := ⟨_, _, _, wBlk X scope e, own, (pi_range1 hgr hm (pa_cons pe_w pa_nil hst) hst), ok, hg, (fun _ _ _ _ _ => pts_nil), (fun s0 H C cl fp => pe_blk s0 H C cl fp), hs, fun {M0 H0 M H σ} S Q q => by
  refine he.run S _ fun v M1 H1 n1 r1 => ?_
  refine ⟨j, by rw [show v = V.int j from r1], by omega, by omega, fun D hD => lc_range (lo := 0) (n := j.toNat) (fun m H' => LcI X.K t M1 H1 D ((List.range m).map f) H') (lcI_start n1.sub hD) ?_ ?_⟩
  · intro m H' hm hI
    have e0 : (0 : Int) + (m : Int) = (m : Int) := Int.zero_add _
    rw [e0]
    refine ⟨wiped hio, fun s0 H2 C cl fp => ?_⟩
    rw [List.range_succ, List.map_append]
    have hl : ((List.range m).map f).length < 1000000 := by
      rw [List.length_map, List.length_range]; omega
    exact lcI_turn (X := X) rfl hD hI hl (fun M' n' => St.block (S.next n1) n' _ i (s := tI) (x := (m : Int)) rfl) (hel s0 H2 C cl fp m (by omega))
  · rintro H' ⟨M', ws, n', mD, hh, pr⟩
    exact q D M' H' ws (n1.trans n') (n1.ex.free hD) mD hh pr⟩
/-- with a test -/
theorem lcI_test {X X' : Cx} {G : List Sl} {c : Expr} {t : Ty β} {M0 H0 M1 H1 H : Hp} {D : Addr} {ys : List β} {σ : L2.St} {d : Bool} {R : Bool → Hp → Prop} (hI : LcI X.K t M1 H1 D ys H)
    (S : ∀ M, Nx M1 H1 M H → St X'.K M0 H0 M H σ G) (ht : T X' G c d) (k : ∀ H3, LcI X.K t M1 H1 D ys H3 → R d H3) : wT X' c σ H R := by
  obtain ⟨M, vs, n, hm, hh, pr⟩ := hI
  refine ht.run (S M n) _ fun M' H' n' => k H' ⟨M', vs, n.trans n', n'.fr D hm (by rw [hh]; simp), n'.ex _ _ hh, paired_imp (fun _ _ q => t.ext n'.vx q) pr⟩
theorem lc_TF {f : α → β} {g : α → Bool} {xs : List α} (he : E X G a (tTup s) xs) (i : Nat)
    (htt : ∀ (s0 : Shared) (H : Hp) (C : Addr) (cl : List (Str × Addr)) (fp : List Addr) (m : Nat) (x : α), xs[m]? = some x → T (X.blk s0 H scope (compEnvC scope cl C X.env) fp) ((wipeG G (own.map (·.2))).set i (.vl s x)) c (g x))
    (hel : ∀ (s0 : Shared) (H : Hp) (C : Addr) (cl : List (Str × Addr)) (fp : List Addr) (m : Nat) (x : α), xs[m]? = some x → g x = true → E (X.blk s0 H scope (compEnvC scope cl C X.env) fp) ((wipeG G (own.map (·.2))).set i (.vl s x)) e t (f x))
    (ok : BlkOk X.N X.env.scope scope own) (hz : xs.length ≤ 1000000)
    (hg : ∀ (s0 : Shared) (H : Hp) (C : Addr) (cl : List (Str × Addr)) (fp : List Addr), PG (X.blk s0 H scope (compEnvC scope cl C X.env) fp) (.Name n pn) (gName i)) (hio : i ∈ own.map (·.2) := by decide)
    (hs : ∀ x, foldedSetIterable a X.env x = pure x := by intro _; rfl) : LC X G e (.Name n pn) (a) [c] scope t ((xs.filter g).map f) := ⟨_, _, wBlkT X scope c, wBlk X scope e, own, (pi_tup pe_w), ok, hg, (fun s0 H C cl fp => pts_one (pt_blk s0 H C cl fp)), (fun s0 H C cl fp => pe_blk s0 H C cl fp), hs, fun {M0 H0 M H σ} S Q q => by
  refine he.run S _ fun v M1 H1 n1 r1 => ?_
  obtain ⟨p, vs, e1, e2, e3⟩ := r1
  refine ⟨p, e1, ⟨vs, sqT_ext n1.sub e2⟩, fun D hD => lc_tup (K := X.K) (a := p) (xs := vs) (fun m H' => LcI X.K t M1 H1 D (((xs.take m).filter g).map f) H') (lcI_start n1.sub hD) (fun m H' _ ⟨M', _, n', _⟩ => sqT_ext (n'.vx.trans n'.sub) e2) ?_ ?_⟩
  · intro m w H' hm hI
    obtain ⟨x', g1, g2⟩ := paired_get' e3 hm
    refine ⟨wiped hio, fun s0 H2 C cl fp => lcI_test hI (fun M' n' => St.block (S.next n1) n' _ i g2) (htt s0 H2 C cl fp m x' g1) fun H3 hI3 => ?_⟩
    cases hd : g x' with
    | true =>
      rw [if_pos rfl]
      intro s0 H2 C cl fp
      rw [take_snoc g1, List.filter_append, List.map_append, show List.filter g [x'] = [x'] by simp [hd]]
      have hl : (((xs.take m).filter g).map f).length < 1000000 := by
        have h1 := (List.getElem?_eq_some_iff.mp g1).1
        have h2 := List.length_filter_le g (xs.take m)
        rw [List.length_take] at h2
        rw [List.length_map]; omega
      exact lcI_turn (X := X) rfl hD hI3 hl (fun M' n' => St.block (S.next n1) n' _ i g2) (hel s0 H2 C cl fp m x' g1 hd)
    | false =>
      rw [if_neg (by decide)]
      rw [take_snoc g1, List.filter_append, show List.filter g [x'] = [] by simp [hd], List.append_nil]
      exact hI3
  · rintro H' ⟨M', ws, n', mD, hh, pr⟩
    rw [e3.length, List.take_length] at pr
    exact q D M' H' ws (n1.trans n') (n1.ex.free hD) mD hh pr⟩
theorem lc_LF {f : α → β} {g : α → Bool} {xs : List α} (he : E X G a (tLst s) xs) (i : Nat)
    (htt : ∀ (s0 : Shared) (H : Hp) (C : Addr) (cl : List (Str × Addr)) (fp : List Addr) (m : Nat) (x : α), xs[m]? = some x → T (X.blk s0 H scope (compEnvC scope cl C X.env) fp) ((wipeG G (own.map (·.2))).set i (.vl s x)) c (g x))
    (hel : ∀ (s0 : Shared) (H : Hp) (C : Addr) (cl : List (Str × Addr)) (fp : List Addr) (m : Nat) (x : α), xs[m]? = some x → g x = true → E (X.blk s0 H scope (compEnvC scope cl C X.env) fp) ((wipeG G (own.map (·.2))).set i (.vl s x)) e t (f x))
    (ok : BlkOk X.N X.env.scope scope own) (hz : xs.length ≤ 1000000)
    (hg : ∀ (s0 : Shared) (H : Hp) (C : Addr) (cl : List (Str × Addr)) (fp : List Addr), PG (X.blk s0 H scope (compEnvC scope cl C X.env) fp) (.Name n pn) (gName i)) (hio : i ∈ own.map (·.2) := by decide)
    (hs : ∀ x, foldedSetIterable a X.env x = pure x := by intro _; rfl) : LC X G e (.Name n pn) (a) [c] scope t ((xs.filter g).map f) := ⟨_, _, wBlkT X scope c, wBlk X scope e, own, (pi_list pe_w), ok, hg, (fun s0 H C cl fp => pts_one (pt_blk s0 H C cl fp)), (fun s0 H C cl fp => pe_blk s0 H C cl fp), hs, fun {M0 H0 M H σ} S Q q => by
  refine he.run S _ fun v M1 H1 n1 r1 => ?_
  obtain ⟨p, vs, e1, e2, e3⟩ := r1
  refine ⟨p, e1, ⟨vs, SqL.of (n1.sub _ _ e2)⟩, fun D hD => lc_list (K := X.K) (a := p) (xs := vs) (fun m H' => LcI X.K t M1 H1 D (((xs.take m).filter g).map f) H') (lcI_start n1.sub hD) (fun m H' _ ⟨M', _, n', _⟩ => SqL.of (n'.sub _ _ (n'.vx _ _ e2))) ?_ ?_⟩
  · intro m w H' hm hI
    obtain ⟨x', g1, g2⟩ := paired_get' e3 hm
    refine ⟨wiped hio, fun s0 H2 C cl fp => lcI_test hI (fun M' n' => St.block (S.next n1) n' _ i g2) (htt s0 H2 C cl fp m x' g1) fun H3 hI3 => ?_⟩
    cases hd : g x' with
    | true =>
      rw [if_pos rfl]
      intro s0 H2 C cl fp
      rw [take_snoc g1, List.filter_append, List.map_append, show List.filter g [x'] = [x'] by simp [hd]]
      have hl : (((xs.take m).filter g).map f).length < 1000000 := by
        have h1 := (List.getElem?_eq_some_iff.mp g1).1
        have h2 := List.length_filter_le g (xs.take m)
        rw [List.length_take] at h2
        rw [List.length_map]; omega
      exact lcI_turn (X := X) rfl hD hI3 hl (fun M' n' => St.block (S.next n1) n' _ i g2) (hel s0 H2 C cl fp m x' g1 hd)
    | false =>
      rw [if_neg (by decide)]
      rw [take_snoc g1, List.filter_append, show List.filter g [x'] = [] by simp [hd], List.append_nil]
      exact hI3
  · rintro H' ⟨M', ws, n', mD, hh, pr⟩
    rw [e3.length, List.take_length] at pr
    exact q D M' H' ws (n1.trans n') (n1.ex.free hD) mD hh pr⟩
theorem lc_RF {f : Nat → β} {g : Nat → Bool} {j : Int} {p1 p2 : Pos} (hm : X.mg "range" = none) (he : E X G a tI j) (hj : -1000000 ≤ j ∧ j ≤ 1000000) (i : Nat)
    (htt : ∀ (s0 : Shared) (H : Hp) (C : Addr) (cl : List (Str × Addr)) (fp : List Addr) (m : Nat), (m : Int) < j → T (X.blk s0 H scope (compEnvC scope cl C X.env) fp) ((wipeG G (own.map (·.2))).set i (.vl tI (m : Int))) c (g m))
    (hel : ∀ (s0 : Shared) (H : Hp) (C : Addr) (cl : List (Str × Addr)) (fp : List Addr) (m : Nat), (m : Int) < j → g m = true → E (X.blk s0 H scope (compEnvC scope cl C X.env) fp) ((wipeG G (own.map (·.2))).set i (.vl tI (m : Int))) e t (f m))
    (ok : BlkOk X.N X.env.scope scope own)
    (hg : ∀ (s0 : Shared) (H : Hp) (C : Addr) (cl : List (Str × Addr)) (fp : List Addr), PG (X.blk s0 H scope (compEnvC scope cl C X.env) fp) (.Name n pn) (gName i)) (hio : i ∈ own.map (·.2) := by decide)
    (hgr : Gl X "range" := by rfl) (hst : starEach [a] X.env = [(false, eval a X.env)] := by rfl)
    (hs : ∀ x, foldedSetIterable (.Call (.Name "range" p1) [a] [] p2) X.env x = pure x := by intro _; rfl) : LC X G e (.Name n pn) (.Call (.Name "range" p1) [a] [] p2) [c] scope t (((List.range j.toNat).filter g).map f) := ⟨_, _, wBlkT X scope c, wBlk X scope e, own, (pi_range1 hgr hm (pa_cons pe_w pa_nil hst) hst), ok, hg, (fun s0 H C cl fp => pts_one (pt_blk s0 H C cl fp)), (fun s0 H C cl fp => pe_blk s0 H C cl fp), hs, fun {M0 H0 M H σ} S Q q => by
  refine he.run S _ fun v M1 H1 n1 r1 => ?_
  refine ⟨j, by rw [show v = V.int j from r1], by omega, by omega, fun D hD => lc_range (lo := 0) (n := j.toNat) (fun m H' => LcI X.K t M1 H1 D (((List.range m).filter g).map f) H') (lcI_start n1.sub hD) ?_ ?_⟩
  · intro m H' hm hI
    have e0 : (0 : Int) + (m : Int) = (m : Int) := Int.zero_add _
    rw [e0]
    refine ⟨wiped hio, fun s0 H2 C cl fp => lcI_test hI (fun M' n' => St.block (S.next n1) n' _ i (s := tI) (x := (m : Int)) rfl) (htt s0 H2 C cl fp m (by omega)) fun H3 hI3 => ?_⟩
    cases hd : g m with
    | true =>
      rw [if_pos rfl]
      intro s0 H2 C cl fp
      rw [List.range_succ, List.filter_append, List.map_append, show List.filter g [m] = [m] by simp [hd]]
      have hl : (((List.range m).filter g).map f).length < 1000000 := by
        have h2 := List.length_filter_le g (List.range m)
        rw [List.length_range] at h2
        rw [List.length_map]; omega
      exact lcI_turn (X := X) rfl hD hI3 hl (fun M' n' => St.block (S.next n1) n' _ i (s := tI) (x := (m : Int)) rfl) (hel s0 H2 C cl fp m (by omega) hd)
    | false =>
      rw [if_neg (by decide)]
      rw [List.range_succ, List.filter_append, show List.filter g [m] = [] by simp [hd], List.append_nil]
      exact hI3
  · rintro H' ⟨M', ws, n', mD, hh, pr⟩
    exact q D M' H' ws (n1.trans n') (n1.ex.free hD) mD hh pr⟩
end
end TL

namespace TL
open PySem PySem.Spec PyProof.Rows L2
section
variable {α β γ ι ρ : Type} {X : Cx} {G : List Sl} {a b c e : Expr} {es : List Expr} {st : Stmt} {rest th el body : List Stmt} {s : Ty α} {t : Ty β} {u : Ty γ} {x : α} {y : β} {z : γ} {pos : Pos} {i j : Int} {xs ys : List α} {p q : Bool} {R : Out} {k : Nat}

/-! ### xs[i] op= e, xs of the frame's own -/
theorem get_list : PGet X (rIxL X.K) := by
  intro pins s σ H o i ov iv Q I ro ri h
  obtain ⟨p, xs, k, z, rfl, rfl, hq, he, q⟩ := h
  cases ro
  obtain ⟨t, rfl⟩ := ri
  obtain ⟨its, r, pl, hz⟩ := I.list hq
  have hl := r.length
  have hn := line63
  obtain ⟨j, h1, h2, h3, h4, h5⟩ := atI_get he
  obtain ⟨w, ew, rw'⟩ := r.get h2
  have fin : EP X pins σ Q w s := ⟨z, H, I, rw', q⟩
  by_cases h0 : 0 ≤ k
  · have hj : k.toNat = j := by
      rw [seqIndex_of h0 h5] at h1
      exact Option.some.inj h1
    exact wpAny_getItem_list pl.isList h0 (by omega) (by rw [hj]; simpa using ew) fin
  · have hj : (k + (its.toArray.size : Int)).toNat = j := by
      rw [seqIndex_neg (by omega) h4] at h1
      rw [List.size_toArray, ← hl]
      exact Option.some.inj h1
    exact wpAny_getItem_list_neg pl.isList (by omega) (by rw [List.size_toArray] <;> omega) (by omega) (by rw [hj]; simpa using ew) fin
theorem s_augI (m : Nat) {n : Str} {p1 p2 : Pos} {ib : Expr} {ns : List Int} {l : Nat} {d : Int} (h0 : G[m]? = some (.ow tI ns)) (hib : E X G ib tI i) (he : E X G e tI j) (hl : ixN ns.length i = some l) (hd0 : ns[l]? = some d) (h : R.nx (G.set m (.ow tI (ns.set l (d + j))))) (hi : X.N[m]? = some n := by rfl)
    (hv : Vis X.env.scope n := by first | exact Or.inl rfl | exact Or.inr (Or.inl rfl) | exact Or.inr (Or.inr rfl))
    (hd : (n == ("__debug__" : Str)) = false := by decide) (hcd : (n == ("__classdict__" : Str)) = false := by decide)
    (ha : ∀ ov iv new, augStore ib ov iv new = (do holding [new, ov, iv] (setItem ov iv new); release [new, ov, iv] []; pure .next) := by intros; rfl) :
    S1 X G (.AugAssign (.Subscript (.Name n p1) ib p2) .Add e pos) R := ⟨fun D E S tk f => by
  refine ⟨_, ps_augS (pe_var hi hv hd hcd) pe_w get_list pe_w ip_add set_list ha, ?_⟩
  obtain ⟨a0, vs0, e0, hh0, _, _, _⟩ := S.putOwn (ys := ns) h0
  refine ⟨.ref a0, e0, hib.run S _ fun w M1 H1 n1 r1 => ?_⟩
  obtain ⟨a1, vs1, e1, hh1, mp1, pr1, _⟩ := (S.next n1).putOwn (ys := ns) h0
  rw [e0] at e1; cases e1
  have e4 := paired_int pr1
  subst e4
  have hat : atI (ns.map V.int) i = some (.int d) := by
    unfold atI
    rw [List.length_map, hl]
    show (ns.map V.int)[l]? = _
    rw [List.getElem?_map, hd0]; rfl
  refine ⟨a0, _, i, .int d, rfl, r1, SqL.of hh1, hat, he.run (S.next n1) _ fun w2 M2 H2 n2 r2 => ?_⟩
  refine ⟨d, j, rfl, r2, ?_⟩
  obtain ⟨a2, vs2, e2, hh2, mp2, pr2, upd'⟩ := (S.next (n1.trans n2)).putOwn (ys := ns.set l (d + j)) h0
  rw [e0] at e2; cases e2
  refine ⟨a0, vs2, i, l, rfl, r1, hh2, by rw [pr2.length]; exact hl, f.nx (upd' _ (paired_set (show tI.rep X.K _ (.int (d + j)) (d + j) from rfl) l pr2)) h⟩⟩
/-! ### a, b = e; for a, b in xs -/
theorem s_unp2 (m1 m2 : Nat) {n1 n2 : Str} {q1 q2 q3 : Pos} {kt : Nat} (he : E X G e (tP2 s t) (x, y)) (h : R.nx ((G.set m1 (.vl s x)).set m2 (.vl t y))) (hN : X.N.Nodup) (hcm : X.calm = true) (hi1 : X.N[m1]? = some n1 := by rfl) (hi2 : X.N[m2]? = some n2 := by rfl)
    (hx1 : Loc X.env.scope n1 := by first | exact Or.inl rfl | exact Or.inr rfl) (hx2 : Loc X.env.scope n2 := by first | exact Or.inl rfl | exact Or.inr rfl) (hf1 : X.fn n1 = true ∨ X.env.scope.names.lookup n1 = some .local := by first | exact .inl rfl | exact .inr rfl) (hf2 : X.fn n2 = true ∨ X.env.scope.names.lookup n2 = some .local := by first | exact .inl rfl | exact .inr rfl)
    (hs1 : (assignEach [.Name n1 q1, .Name n2 q2] X.env).map (·.2) = assign (.Name n1 q1) X.env :: (assignEach [.Name n2 q2] X.env).map (·.2) := by rfl) (hs2 : (assignEach [.Name n2 q2] X.env).map (·.2) = assign (.Name n2 q2) X.env :: (assignEach [] X.env).map (·.2) := by rfl)
    (hn : (assignEach [.Name n1 q1, .Name n2 q2] X.env).length = 2 := by rfl) (hst : (assignEach [.Name n1 q1, .Name n2 q2] X.env).findIdx? (·.1) = none := by rfl)
    (hs : swapsWithSole [.Tuple [.Name n1 q1, .Name n2 q2] kt q3] e pos.line X.env = pure false := by rfl) (hw : swappedStores [.Tuple [.Name n1 q1, .Name n2 q2] kt q3] e X.env = pure none := by rfl)
    (h1 : (assignEach [.Tuple [.Name n1 q1, .Name n2 q2] kt q3] X.env).map (·.2) = [assign (.Tuple [.Name n1 q1, .Name n2 q2] kt q3) X.env] := by rfl) :
    S1 X G (.Assign [.Tuple [.Name n1 q1, .Name n2 q2] kt q3] e pos) R := ⟨fun D E S tk f =>
  ⟨_, ps_asg pe_w (pg_tup hcm (pgs_cons (pg_name hN hi1 hx1 hf1) (pgs_cons (pg_name hN hi2 hx2 hf2) pgs_nil hs2) hs1) hn hst) hs hw h1, he.run S _ fun v M1 H1 n1 r1 => by
    obtain ⟨a, v1, v2, e1, e2, e3, e4⟩ := r1
    exact ⟨a, [v1, v2], e1, sqT_ext n1.sub e2, rfl, v1, [v2], rfl, v2, [], rfl, rfl, f.nx (((S.next n1).set (s := .vl s x) e3).set (s := .vl t y) e4) h⟩⟩⟩
theorem s_forL2 (m1 m2 : Nat) {n1 n2 : Str} {q1 q2 q3 : Pos} {kt : Nat} {zs : List (α × β)} (I : Nat → List Sl → Prop) (G0 : List Sl) (he : E X G a (tLst (tP2 s t)) zs) (w0 : Sub G G0) (h0 : I 0 G0)
    (hs : ∀ m x y G', zs[m]? = some (x, y) → I m G' → B X ((G'.set m1 (.vl s x)).set m2 (.vl t y)) body ⟨I (m + 1), R.rt, R.nx, I (m + 1), R.xc⟩) (hd : ∀ G', I zs.length G' → R.nx G')
    (hN : X.N.Nodup) (hcm : X.calm = true) (hi1 : X.N[m1]? = some n1 := by rfl) (hi2 : X.N[m2]? = some n2 := by rfl)
    (hx1 : Loc X.env.scope n1 := by first | exact Or.inl rfl | exact Or.inr rfl) (hx2 : Loc X.env.scope n2 := by first | exact Or.inl rfl | exact Or.inr rfl) (hf1 : X.fn n1 = true ∨ X.env.scope.names.lookup n1 = some .local := by first | exact .inl rfl | exact .inr rfl) (hf2 : X.fn n2 = true ∨ X.env.scope.names.lookup n2 = some .local := by first | exact .inl rfl | exact .inr rfl)
    (hs1 : (assignEach [.Name n1 q1, .Name n2 q2] X.env).map (·.2) = assign (.Name n1 q1) X.env :: (assignEach [.Name n2 q2] X.env).map (·.2) := by rfl) (hs2 : (assignEach [.Name n2 q2] X.env).map (·.2) = assign (.Name n2 q2) X.env :: (assignEach [] X.env).map (·.2) := by rfl)
    (hn : (assignEach [.Name n1 q1, .Name n2 q2] X.env).length = 2 := by rfl) (hst : (assignEach [.Name n1 q1, .Name n2 q2] X.env).findIdx? (·.1) = none := by rfl)
    (hp : PassesOwn (model X.prog X.w) X.A X.env X.xe := by first | exact PassesOwn.never | assumption)
    (hfs : ∀ x, foldedSetIterable a X.env x = pure x := by intro _; rfl) : S1 X G (.For (.Tuple [.Name n1 q1, .Name n2 q2] kt q3) a body [] pos) R := ⟨fun {M0 H0 M H σ} D E S tk f =>
  ⟨_, ps_for hp hcm (pi_list pe_w) (pg_tup hcm (pgs_cons (pg_name hN hi1 hx1 hf1) (pgs_cons (pg_name hN hi2 hx2 hf2) pgs_nil hs2) hs1) hn hst) pss_w hfs, he.run S _ fun v M1 H1 n1 r1 => by
    obtain ⟨p, vs, e1, e2, e3⟩ := r1
    have n0 := S.nx.trans n1
    refine ⟨p, e1, ⟨vs, SqL.of (n1.sub _ _ e2)⟩, for_list (K := X.K) (a := p) (xs := vs) (fun m σ' H' => ∃ M' G', St X.K M1 H0 M' H' σ' G' ∧ I m G') ⟨M1, G0, ((S.next n1).weak w0).rebase, h0⟩ (fun m σ' H' _ ⟨M', G', S', _⟩ => SqL.of (S'.sub _ _ (S'.nx.vx _ _ e2))) ?_ ?_⟩
    · rintro m w σ' H' hm ⟨M', G', S', hI⟩
      obtain ⟨⟨x', y'⟩, g1, g2⟩ := paired_get' e3 hm
      obtain ⟨pa, v1, v2, f1, f2, f3, f4⟩ := g2
      exact ⟨pa, [v1, v2], f1, sqT_ext (S'.nx.vx.trans S'.sub) f2, rfl, v1, [v2], rfl, v2, [], rfl, rfl, (hs m x' y' G' g1 hI).run _ E ((S'.set (s := .vl s x') (v := v1) (s.ext S'.nx.vx f3)).set (s := .vl t y') (v := v2) (t.ext S'.nx.vx f4)) tk
        ⟨fun S2 h2 => ⟨_, _, S2, h2⟩, fun n2 h2 => f.rt (n0.unbase n2) h2, fun S2 h2 => f.nx (S2.unbase n0) h2, fun S2 h2 => ⟨_, _, S2, h2⟩, fun S2 h2 => f.xc (S2.unbase n0) h2⟩⟩
    · rintro σ' H' ⟨M', G', S', hI⟩
      rw [e3.length] at hI
      exact f.nx (S'.unbase n0) (hd G' hI)⟩⟩
/-! ### fields -/
theorem e_fld {C : Addr} {fs : α → List (Str × Cl)} {nm : Str} {cl : Cl} (he : E X G a (tOb C fs) x) (hc : Cls X.K C) (hn : NoAttr X.K C nm) (hl : (fs x).lookup nm = some cl) (hb : attributeBase a nm X.env (eval a X.env) = eval a X.env := by rfl) : E X G (.Attribute a nm pos) cl.t cl.x := ⟨fun S Q k =>
  ⟨_, pe_fld pe_w hb, he.run S _ fun v M1 H1 n1 r1 => by
    obtain ⟨p, dx, vs, e1, e2, e3⟩ := r1
    obtain ⟨w, g1, g2⟩ := freps_lookup e3 hl
    exact ⟨p, C, dx, vs, w, e1, n1.sub _ _ e2, hc, hn, g1, k w M1 H1 n1 g2⟩⟩⟩
theorem lookup_putF_reps {K : Fg} {M : Hp} {f : Str} {v : V} {c : Cl} (h : c.t.rep K M v c.x) : ∀ {vs : List (Str × V)} {cs : List (Str × Cl)}, FReps K M vs cs → cs.lookup f = none → FReps K M (putF f v vs) (cs ++ [(f, c)])
  | _, _, .nil, _ => .cons h .nil
  | _, _, .cons (f := g) (v := u) (c := d) h' r, e => by
    by_cases z : f = g
    · subst z; simp [List.lookup] at e
    · have z' : (f == g) = false := by simpa using z
      simp only [List.lookup, z'] at e
      show FReps K M (if g = f then _ else _) _
      rw [if_neg (Ne.symm z)]
      exact .cons h' (lookup_putF_reps h r e)
/-- self.f = e, the first store to this field -/
theorem s_fldNew (m : Nat) {n : Str} {p1 p2 : Pos} {p dx C : Addr} {fs : List (Str × Cl)} {nm : Str} (h0 : G[m]? = some (.ob p dx C fs)) (he : E X G e s x) (hc : Cls X.K C) (hna : NoAttr X.K C nm) (hl : fs.lookup nm = none) (hz : fs.length < 1000) (h : R.nx (G.set m (.ob p dx C (fs ++ [(nm, ⟨s, x⟩)])))) (hi : X.N[m]? = some n := by rfl)
    (hv : Vis X.env.scope n := by first | exact Or.inl rfl | exact Or.inr (Or.inl rfl) | exact Or.inr (Or.inr rfl))
    (hd : (n == ("__debug__" : Str)) = false := by decide) (hcd : (n == ("__classdict__" : Str)) = false := by decide)
    (hs : swapsWith e (some (.Attribute (.Name n p1) nm p2)) pos.line X.env = pure false := by rfl) : S1 X G (.Assign [.Attribute (.Name n p1) nm p2] e pos) R := ⟨fun D E S tk f => by
  refine ⟨_, ps_fld (pe_var hi hv hd hcd) pe_w hs, he.run S _ fun v M1 H1 n1 r1 => ?_⟩
  obtain ⟨vs, e1, hh, hm, fr, upd'⟩ := (S.next n1).putOb (fs' := fs ++ [(nm, ⟨s, x⟩)]) h0
  exact ⟨.ref p, e1, p, C, dx, vs, rfl, hh, hc, hna, by rw [freps_len fr]; exact hz, f.nx (upd' _ (lookup_putF_reps (c := ⟨s, x⟩) r1 fr hl)) h⟩⟩
/-! ### __init__ and C(..) -/
/-- the promise of an __init__: it leaves an instance with these fields -/
def spI (K : Fg) (C : Addr) (ar : ι → List Sl) (pre : ι → Prop) (fs : ι → List (Str × Cl)) : Sp := fun vs H Q _ =>
  ∃ (i : ι) (M H1 : Hp) (x dx : Addr) (vs' : List V), vs = .ref x :: vs' ∧ Same M H1 ∧ H1 x = none ∧ H1 dx = none ∧ dx ≠ x ∧ H = upd (upd H1 dx (.own x)) x (.ins C dx []) ∧ Reps K M vs' (ar i) ∧ pre i ∧
    ∀ M' H' us, Nx M H1 M' H' → M' x = none → M' dx = none → H' x = some (.ins C dx us) → H' dx = some (.own x) → FReps K M' us (fs i) → Q .non H'
theorem e_make {P : Program} {w : World} {K : Fg} {mg : Str → Option Value} {base : Heap} {n : Str} {C f : Addr} {fd : FuncData} {ps : List Str} {ar : ι → List Sl} {pre : ι → Prop} {fs : ι → List (Str × Cl)} {p : Pos} (M : Mk K C f) (F : FnOk P w K mg base CX0 k f fd ps (spI K C ar pre fs)) (hr : Room (k + 1) X.A) (hm : mg n = some (.ref C)) (hb : Binds K fd ps []) (i : ι) (ha : EA X G (e :: es) (ar i)) (hp : pre i)
    (hg : Gl X n := by rfl) (hdb : (n == ("__debug__" : Str)) = false := by decide) (he : starEach (e :: es) X.env = (false, eval e X.env) :: starEach es X.env := by rfl) (hpl : (backTo pos (starEach es X.env)).any (·.1) = false := by rfl)
    (xP : X.prog = P := by rfl) (xw : X.w = w := by rfl) (xK : X.K = K := by rfl) (xm : X.mg = mg := by rfl) (xb : X.base = base := by rfl) : E X G (.Call (.Name n p) (e :: es) [] pos) (tOb C fs) i := ⟨fun S Q q => by
  subst xP xw xK xm xb
  exact ⟨_, pe_make M F hr hg hm hb .nil pass0 pa_w hdb he hpl, ha.run S _ fun vs M1 H1 n1 r1 => fun x dx hx hdx ne => by
    rw [List.append_nil]
    refine ⟨i, M1, H1, x, dx, vs, rfl, n1.sub, hx, hdx, ne, rfl, r1, hp, fun M' H' us n2 mx md hh hd fr => ⟨rfl, ?_⟩⟩
    refine q _ (upd M' x (.ins C dx us)) H' (n1.trans ⟨n2.ex, n2.vx.trans (same_new mx), fun b o e => ?_, fun b q1 q2 => ?_⟩) ⟨x, dx, us, rfl, upd_same, freps_ext (same_new mx) fr⟩
    · by_cases z : b = x
      · subst z; rw [upd_same] at e; cases e; exact hh
      · rw [upd_ne z] at e; exact n2.sub b o e
    · rw [upd_ne (fun z => q2 (by rw [z]; exact hx))]; exact n2.fr b q1 q2⟩⟩
/-- the state at an __init__'s entry -/
theorem st_startI {K : Fg} {M H1 : Hp} {C x dx : Addr} {vs : List V} {ss : List Sl} {N : List Str} {n : Nat} (m : Same M H1) (hx : H1 x = none) (hdx : H1 dx = none) (ne : dx ≠ x) (r : Reps K M vs ss) (hn : N.length = ss.length + 1 + n) :
    St K M H1 M (upd (upd H1 dx (.own x)) x (.ins C dx [])) (L2.start N (.ref x :: vs)) (.ob x dx C [] :: (ss ++ List.replicate n .un)) := by
  have hl := reps_len r
  have nx1 : Nx M H1 M (upd (upd H1 dx (.own x)) x (.ins C dx [])) := by
    have e1 := nx_lay (o := .own x) m hdx
    have e2 := nx_lay (o := .ins C dx []) e1.sub (p := x) (by rw [upd_ne ne.symm]; exact hx)
    exact ⟨e1.ex.trans e2.ex, Same.refl _, e2.sub, fun _ q _ => q⟩
  obtain ⟨N1, N2, hN⟩ : ∃ n1 N', N = n1 :: N' := by
    cases N with
    | nil => simp at hn; omega
    | cons a b => exact ⟨a, b, rfl⟩
  have S0 := (st_start (N := N2) (K := K) (n := n) m r (by rw [hN] at hn; simp at hn; omega)).next nx1
  obtain ⟨A, h1, h2⟩ := S0.sl
  have noown : ∀ (j : Nat) (t' : Sl), (ss ++ List.replicate n Sl.un)[j]? = some t' → t'.own = false := fun j t' e => by
    by_cases h : j < ss.length
    · rw [List.getElem?_append_left h] at e; exact reps_noown r e
    · rw [List.getElem?_append_right (Nat.le_of_not_lt h)] at e
      obtain ⟨l, e3⟩ := List.getElem?_eq_some_iff.mp e
      rw [List.getElem_replicate] at e3
      subst e3; rfl
  refine ⟨nx1, ?_, fun j => if j = 0 then [x] else A (j - 1), fun j u e => ?_, fun j l u v e1 e2 o1 o2 nn y hy => ?_⟩
  · unfold L2.start
    rw [hN]
    simp only [List.map_cons, List.length_append, List.length_cons, List.length_map, List.length_replicate]
    rw [hN] at hn; simp at hn; omega
  · cases j with
    | zero =>
      simp at e
      subst e
      exact ⟨some (.ref x), by unfold L2.start; rfl, rfl, rfl, hx, same_none m hx, [], upd_same, by rw [upd_ne ne, upd_same], hdx, same_none m hdx, .nil⟩
    | succ j =>
      have e' : (ss ++ List.replicate n Sl.un)[j]? = some u := by simpa using e
      obtain ⟨o, q1, q2⟩ := h1 j u e'
      refine ⟨o, ?_, ?_⟩
      · unfold L2.start at q1 ⊢
        rw [hN]
        simp only [List.map_cons, List.cons_append, List.length_cons, List.getElem?_cons_succ, Nat.add_sub_add_right]
        exact q1
      · show Ok1 K H1 M _ o (if j + 1 = 0 then [x] else A (j + 1 - 1)) u
        rw [if_neg (Nat.succ_ne_zero j)]
        exact q2
  · cases j with
    | zero =>
      cases l with
      | zero => exact absurd rfl nn
      | succ l => rw [noown l v (by simpa using e2)] at o2; cases o2
    | succ j => rw [noown j u (by simpa using e1)] at o1; cases o1
theorem fn_init {P : Program} {w : World} {K : Fg} {mg : Str → Option Value} {base : Heap} {x qual : Str} {st : Stmt} {f C : Addr} {fd : FuncData} {N ps : List Str} {k : Nat} {ar : ι → List Sl} {pre : ι → Prop} {fs : ι → List (Str × Cl)} (F : Fun K x qual st f fd) (S : FnScope N ps (defScope st)) (n : Nat)
    (hn : N.length = ps.length + n) (hl : ∀ i, (ar i).length + 1 = ps.length)
    (hb : ∀ (cdv : Value) (A : Around) (outer : List Env) (s : Shared) (H : Hp) (E : XK), Room k (A.deeper (envOfC qual (defScope st) s.heap.objs.size f cdv)) → ∀ i p dx, pre i →
      B (cxOf CX0 P w K mg base N qual (defScope st) f cdv A outer s H E).nox (.ob p dx C [] :: (ar i ++ List.replicate n .un)) (defBody st) { nx := fun G' => G'[0]? = some (.ob p dx C (fs i)), rt := fun _ _ => False }) : FnOk P w K mg base CX0 (k + 1) f fd ps (spI K C ar pre fs) := by
  refine F.ok S (fun vs H Q E h => ?_) (fun cdv A outer s H vs Q E hr h => ⟨_, pss_w, ?_⟩)
  · obtain ⟨i, M, H1, x, dx, vs', rfl, _, _, _, _, _, r, _⟩ := h
    rw [List.length_cons, reps_len r, hl]
  · obtain ⟨i, M, H1, x, dx, vs', rfl, m, hx, hdx, ne, rfl, r, hp, q⟩ := h
    refine (hb cdv A outer s _ E hr i x dx hp).run _ (fun _ _ _ _ => False) (st_startI m hx hdx ne r (by have := hl i; omega)) takes_false ⟨fun {M' H' σ' G'} S' h => ?_, fun n2 h => h.elim, fun _ h => h.elim, fun _ h => h.elim, fun _ h => h.elim⟩
    obtain ⟨us, e1, e2, e3, e4, e5, e6⟩ := S'.getOb h
    exact q _ _ us S'.nx e4 e5 e2 e3 e6
end
end TL

namespace TL
open PySem PySem.Spec PyProof.Rows L2
theorem kb_NoneType_int : kitB "NoneType" "int" = some false := by decide +kernel
theorem kb_NoneType_bool : kitB "NoneType" "bool" = some false := by decide +kernel
theorem kb_NoneType_str : kitB "NoneType" "str" = some false := by decide +kernel
theorem kb_NoneType_list : kitB "NoneType" "list" = some false := by decide +kernel
theorem kb_NoneType_tuple : kitB "NoneType" "tuple" = some false := by decide +kernel
theorem kb_bool_int : kitB "bool" "int" = some true := by decide +kernel
theorem kb_bool_bool : kitB "bool" "bool" = some true := by decide +kernel
theorem kb_bool_str : kitB "bool" "str" = some false := by decide +kernel
theorem kb_bool_list : kitB "bool" "list" = some false := by decide +kernel
theorem kb_bool_tuple : kitB "bool" "tuple" = some false := by decide +kernel
theorem kb_int_int : kitB "int" "int" = some true := by decide +kernel
theorem kb_int_bool : kitB "int" "bool" = some false := by decide +kernel
theorem kb_int_str : kitB "int" "str" = some false := by decide +kernel
theorem kb_int_list : kitB "int" "list" = some false := by decide +kernel
theorem kb_int_tuple : kitB "int" "tuple" = some false := by decide +kernel
theorem kb_str_int : kitB "str" "int" = some false := by decide +kernel
theorem kb_str_bool : kitB "str" "bool" = some false := by decide +kernel
theorem kb_str_str : kitB "str" "str" = some true := by decide +kernel
theorem kb_str_list : kitB "str" "list" = some false := by decide +kernel
theorem kb_str_tuple : kitB "str" "tuple" = some false := by decide +kernel
theorem kb_list_int : kitB "list" "int" = some false := by decide +kernel
theorem kb_list_bool : kitB "list" "bool" = some false := by decide +kernel
theorem kb_list_str : kitB "list" "str" = some false := by decide +kernel
theorem kb_list_list : kitB "list" "list" = some true := by decide +kernel
theorem kb_list_tuple : kitB "list" "tuple" = some false := by decide +kernel
theorem kb_tuple_int : kitB "tuple" "int" = some false := by decide +kernel
theorem kb_tuple_bool : kitB "tuple" "bool" = some false := by decide +kernel
theorem kb_tuple_str : kitB "tuple" "str" = some false := by decide +kernel
theorem kb_tuple_list : kitB "tuple" "list" = some false := by decide +kernel
theorem kb_tuple_tuple : kitB "tuple" "tuple" = some true := by decide +kernel
/-! ### data: what type it has -/
def tyN : PyData → String
  | .none => "NoneType"
  | .bool _ => "bool"
  | .int _ => "int"
  | .str _ => "str"
  | .list _ => "list"
  | .tuple _ => "tuple"
  | .dict _ => "dict"
def isID : PyData → Bool
  | .int _ => true
  | .bool _ => true
  | _ => false
theorem kbI : ∀ d : PyData, kitB (tyN d) "int" = some (isID d)
  | .none => (by decide +kernel : kitB "NoneType" "int" = some false)
  | .bool _ => (by decide +kernel : kitB "bool" "int" = some true)
  | .int _ => (by decide +kernel : kitB "int" "int" = some true)
  | .str _ => (by decide +kernel : kitB "str" "int" = some false)
  | .list _ => (by decide +kernel : kitB "list" "int" = some false)
  | .tuple _ => (by decide +kernel : kitB "tuple" "int" = some false)
  | .dict _ => (by decide +kernel : kitB "dict" "int" = some false)
def isBD : PyData → Bool
  | .bool _ => true
  | _ => false
theorem kbB : ∀ d : PyData, kitB (tyN d) "bool" = some (isBD d)
  | .none => (by decide +kernel : kitB "NoneType" "bool" = some false)
  | .bool _ => (by decide +kernel : kitB "bool" "bool" = some true)
  | .int _ => (by decide +kernel : kitB "int" "bool" = some false)
  | .str _ => (by decide +kernel : kitB "str" "bool" = some false)
  | .list _ => (by decide +kernel : kitB "list" "bool" = some false)
  | .tuple _ => (by decide +kernel : kitB "tuple" "bool" = some false)
  | .dict _ => (by decide +kernel : kitB "dict" "bool" = some false)
def isSD : PyData → Bool
  | .str _ => true
  | _ => false
theorem kbS : ∀ d : PyData, kitB (tyN d) "str" = some (isSD d)
  | .none => (by decide +kernel : kitB "NoneType" "str" = some false)
  | .bool _ => (by decide +kernel : kitB "bool" "str" = some false)
  | .int _ => (by decide +kernel : kitB "int" "str" = some false)
  | .str _ => (by decide +kernel : kitB "str" "str" = some true)
  | .list _ => (by decide +kernel : kitB "list" "str" = some false)
  | .tuple _ => (by decide +kernel : kitB "tuple" "str" = some false)
  | .dict _ => (by decide +kernel : kitB "dict" "str" = some false)
def isLD : PyData → Bool
  | .list _ => true
  | _ => false
theorem kbL : ∀ d : PyData, kitB (tyN d) "list" = some (isLD d)
  | .none => (by decide +kernel : kitB "NoneType" "list" = some false)
  | .bool _ => (by decide +kernel : kitB "bool" "list" = some false)
  | .int _ => (by decide +kernel : kitB "int" "list" = some false)
  | .str _ => (by decide +kernel : kitB "str" "list" = some false)
  | .list _ => (by decide +kernel : kitB "list" "list" = some true)
  | .tuple _ => (by decide +kernel : kitB "tuple" "list" = some false)
  | .dict _ => (by decide +kernel : kitB "dict" "list" = some false)
def isTD : PyData → Bool
  | .tuple _ => true
  | _ => false
theorem kbT : ∀ d : PyData, kitB (tyN d) "tuple" = some (isTD d)
  | .none => (by decide +kernel : kitB "NoneType" "tuple" = some false)
  | .bool _ => (by decide +kernel : kitB "bool" "tuple" = some false)
  | .int _ => (by decide +kernel : kitB "int" "tuple" = some false)
  | .str _ => (by decide +kernel : kitB "str" "tuple" = some false)
  | .list _ => (by decide +kernel : kitB "list" "tuple" = some false)
  | .tuple _ => (by decide +kernel : kitB "tuple" "tuple" = some true)
  | .dict _ => (by decide +kernel : kitB "dict" "tuple" = some false)
/-- an int that is no bool -/
def wholeD : PyData → Bool
  | .int _ => true
  | _ => false
theorem wholeD_eq (d : PyData) : wholeD d = (isID d && !isBD d) := by cases d <;> rfl
def spWhole (K : Fg) : Sp := spG K (fun d : PyData => [.vl tD d]) (fun _ => True) tB wholeD
theorem tyx_L {K : Fg} {M H : Hp} {a : Addr} {vs : List V} (m : Same M H) (h : SqL K M a vs) : TyX K H (.ref a) (.type "list") := by
  rcases h with (h | ⟨o, h⟩) | ⟨o, its, n, h1, h2, _⟩
  · exact .base (.lst (m _ _ h))
  · exact .base (.frz (m _ _ h))
  · exact .kList h1 h2
theorem tyx_T {K : Fg} {M H : Hp} {a : Addr} {vs : List V} (m : Same M H) (h : SqT K M a vs) : TyX K H (.ref a) (.type "tuple") := by
  rcases h with (h | ⟨o, h⟩) | ⟨o, its, n, h1, h2, _⟩
  · exact .base (.tup (m _ _ h))
  · exact .fTuple (m _ _ h)
  · exact .kTuple h1 h2
theorem tyx_D {K : Fg} {M H : Hp} {v : V} {d : PyData} (m : Same M H) (h : Dp K M v d) : TyX K H v (.type (tyN d)) := by
  cases h with
  | non => exact .base .non
  | bl b => exact .base (.bl b)
  | int i => exact .base (.int i)
  | str x => exact .base (.str x)
  | lst h1 h2 => exact tyx_L m h1
  | tup h1 h2 => exact tyx_T m h1
section
variable {α β γ ι ρ : Type} {X : Cx} {G : List Sl} {a b c e : Expr} {es : List Expr} {s : Ty α} {t : Ty β} {x : α} {y : β} {pos : Pos} {k : Nat}
theorem e_Tlist (b : X.mg "list" = none) (hg : Gl X "list" := by rfl) : E X G (.Name "list" pos) tC (.ty "list") := e_ty (nm := "list") b (by decide +kernel) hg
theorem e_Ttuple (b : X.mg "tuple" = none) (hg : Gl X "tuple" := by rfl) : E X G (.Name "tuple" pos) tC (.ty "tuple") := e_ty (nm := "tuple") b (by decide +kernel) hg
theorem e_Tint (b : X.mg "int" = none) (hg : Gl X "int" := by rfl) : E X G (.Name "int" pos) tC (.ty "int") := e_ty (nm := "int") b (by decide +kernel) hg
theorem e_Tbool (b : X.mg "bool" = none) (hg : Gl X "bool" := by rfl) : E X G (.Name "bool" pos) tC (.ty "bool") := e_ty (nm := "bool") b (by decide +kernel) hg
theorem e_Tstr (b : X.mg "str" = none) (hg : Gl X "str" := by rfl) : E X G (.Name "str" pos) tC (.ty "str") := e_ty (nm := "str") b (by decide +kernel) hg
/-- isinstance(x, T), T a built-in type, x data -/
theorem e_isD {p : Pos} {nm : String} {d : Bool} {dd : PyData} (hm : X.mg "isinstance" = none) (ha : E X G a s x) (hb : E X G b tC (.ty nm)) (ht : ∀ M v, s.rep X.K M v x → Dp X.K M v dd) (hk : kitB (tyN dd) nm = some d) (hg : Gl X "isinstance" := by rfl)
    (he : starEach [a, b] X.env = (false, eval a X.env) :: starEach [b] X.env := by rfl) (he2 : starEach [b] X.env = (false, eval b X.env) :: starEach [] X.env := by rfl) (hpl : (backTo pos (starEach [b] X.env)).any (·.1) = false := by rfl) : E X G (.Call (.Name "isinstance" p) [a, b] [] pos) tB d :=
  e_isi hm ha hb (fun M v r => ⟨.type (tyN dd), .type nm, .ty nm, fun H m => tyx_D m (ht M v r), kit_ty hk⟩) hg he he2 hpl
/-- isinstance(x, C), C a class of one's own, x data: no -/
theorem kit_own_no {K : Fg} {nm : String} {C : Addr} (h : PySem.W.kitOne K (.type nm) (.ref C) = some false) : PySem.W.kitOne K (.type nm) (.ref C) = some false := h
/-- isinstance(x, (A, B)), built-in types -/
theorem e_isD2 {p p1 : Pos} {n : Nat} {nm1 nm2 : String} {d1 d2 : Bool} {dd : PyData} (hm : X.mg "isinstance" = none) (ha : E X G a s x) (hb : E X G b tC (.ty nm1)) (hc : E X G c tC (.ty nm2)) (ht : ∀ M v, s.rep X.K M v x → Dp X.K M v dd) (hk1 : kitB (tyN dd) nm1 = some d1) (hk2 : kitB (tyN dd) nm2 = some d2) (hg : Gl X "isinstance" := by rfl)
    (he : starEach [a, .Tuple [b, c] n p1] X.env = (false, eval a X.env) :: starEach [.Tuple [b, c] n p1] X.env := by rfl) (he2 : starEach [.Tuple [b, c] n p1] X.env = (false, eval (.Tuple [b, c] n p1) X.env) :: starEach [] X.env := by rfl) (hpl : (backTo pos (starEach [.Tuple [b, c] n p1] X.env)).any (·.1) = false := by rfl)
    (hs : starEach [b, c] X.env = (false, eval b X.env) :: starEach [c] X.env := by rfl) (hs2 : starEach [c] X.env = (false, eval c X.env) :: starEach [] X.env := by rfl) : E X G (.Call (.Name "isinstance" p) [a, .Tuple [b, c] n p1] [] pos) tB (d1 || d2) := ⟨fun S Q k =>
  ⟨_, pe_callB call_isiT hg hm (by decide +kernel) (pa_cons pe_w (pa_cons (pe_tup (pa_cons pe_w (pa_cons pe_w pa_nil hs2) hs)) pa_nil he2) he) (by decide) (by decide) he hpl, ha.run S _ fun v M1 H1 n1 r1 => hb.run (S.next n1) _ fun w M2 H2 n2 r2 => hc.run (S.next (n1.trans n2)) _ fun w' M3 H3 n3 r3 => ⟨by show 2 ≤ sizeLine; decide, fun q hq => by
    have nn := Nx.new (o := .tup [w, w']) n3.sub hq
    refine ⟨v, q, [w, w'], .type (tyN dd), [.type nm1, .type nm2], d1 || d2, rfl, upd_same, ?_, tyx_D (((n2.vx.trans n3.vx).trans n3.sub).trans (same_new hq)) (ht M1 v r1), ?_, k _ _ _ (((n1.trans n2).trans n3).trans nn) rfl⟩
    · rw [show w = V.ty nm1 from r2, show w' = V.ty nm2 from r3]; exact .cons (.ty nm1) (.cons (.ty nm2) .nil)
    · refine kitAny_cons (kit_ty hk1) (fun h => ?_) (fun h => by rw [h]; rfl)
      refine kitAny_cons (kit_ty hk2) (fun h' => ?_) (fun h' => by rw [h']; simp)
      rw [h, h']; rfl⟩⟩⟩
end
/-! ### typed things as data -/
section
variable {K : Fg} {M : Hp} {v : V} {α : Type} {s : Ty α} {f : α → PyData}
theorem dp_I {i : Int} (h : tI.rep K M v i) : Dp K M v (.int i) := by rw [show v = V.int i from h]; exact .int i
theorem dp_B {i : Bool} (h : tB.rep K M v i) : Dp K M v (.bool i) := by rw [show v = V.bl i from h]; exact .bl i
theorem dp_S {i : Str} (h : tS.rep K M v i) : Dp K M v (.str i) := by rw [show v = V.str i from h]; exact .str i
theorem dp_N (h : tN.rep K M v ()) : Dp K M v .none := by rw [show v = V.non from h]; exact .non
theorem dp_all (hf : ∀ v x, s.rep K M v x → Dp K M v (f x)) : ∀ {vs : List V} {xs : List α}, Paired (s.rep K M) vs xs → DpAll K M vs (xs.map f)
  | _, _, .nil => .nil
  | _, _, .cons h t => .cons (hf _ _ h) (dp_all hf t)
theorem dp_T (hf : ∀ v x, s.rep K M v x → Dp K M v (f x)) {xs : List α} (h : (tTup s).rep K M v xs) : Dp K M v (.tuple (xs.map f)) := by
  obtain ⟨a, vs, rfl, h2, h3⟩ := h
  exact .tup h2 (dp_all hf h3)
theorem dp_L (hf : ∀ v x, s.rep K M v x → Dp K M v (f x)) {xs : List α} (h : (tLst s).rep K M v xs) : Dp K M v (.list (xs.map f)) := by
  obtain ⟨a, vs, rfl, h2, h3⟩ := h
  exact .lst (SqL.of h2) (dp_all hf h3)
theorem pd_I {i : Int} (h : Dp K M v (.int i)) : tI.rep K M v i := by cases h; rfl
theorem pd_all (hf : ∀ v x, Dp K M v (f x) → s.rep K M v x) : ∀ {vs : List V} {xs : List α}, DpAll K M vs (xs.map f) → Paired (s.rep K M) vs xs
  | _, [], h => by
    cases h; exact .nil
  | _, x :: xs, h => by
    cases h with
    | cons h t => exact .cons (hf _ _ h) (pd_all hf t)
theorem pd_T (hf : ∀ v x, Dp K M v (f x) → s.rep K M v x) {xs : List α} (h : Dp K M v (.tuple (xs.map f))) : (tTup s).rep K M v xs := by
  cases h with
  | tup h1 h2 => exact ⟨_, _, rfl, h1, pd_all hf h2⟩
/-- a row of ints, a table of ints as data -/
def dRow (xs : List Int) : PyData := .tuple (xs.map .int)
def dTab (xs : List (List Int)) : PyData := .tuple (xs.map dRow)
def dRowL (xs : List Int) : PyData := .list (xs.map .int)
def dTabL (xs : List (List Int)) : PyData := .list (xs.map dRowL)
theorem dp_row {xs : List Int} (h : (tTup tI).rep K M v xs) : Dp K M v (dRow xs) := dp_T (fun _ _ => dp_I) h
theorem dp_tab {xs : List (List Int)} (h : (tTup (tTup tI)).rep K M v xs) : Dp K M v (dTab xs) := dp_T (fun _ _ => dp_row) h
theorem dp_rowL {xs : List Int} (h : (tLst tI).rep K M v xs) : Dp K M v (dRowL xs) := dp_L (fun _ _ => dp_I) h
theorem dp_tabL {xs : List (List Int)} (h : (tLst (tLst tI)).rep K M v xs) : Dp K M v (dTabL xs) := dp_L (fun _ _ => dp_rowL) h
theorem pd_row {xs : List Int} (h : Dp K M v (dRow xs)) : (tTup tI).rep K M v xs := pd_T (fun _ _ => pd_I) h
theorem pd_tab {xs : List (List Int)} (h : Dp K M v (dTab xs)) : (tTup (tTup tI)).rep K M v xs := pd_T (fun _ _ => pd_row) h
end
/-! ### frozen -/
mutual
def frz : PyData → PyData
  | .list ds => .tuple (frzAll ds)
  | .tuple ds => .tuple (frzAll ds)
  | .none => .none
  | .bool b => .bool b
  | .int i => .int i
  | .str s => .str s
  | .dict kvs => .dict kvs
def frzAll : List PyData → List PyData
  | [] => []
  | d :: ds => frz d :: frzAll ds
end
theorem frzAll_map : ∀ ds : List PyData, frzAll ds = ds.map frz
  | [] => by rw [frzAll]; rfl
  | d :: ds => by rw [frzAll, frzAll_map ds]; rfl
/-- not deeper than n, no list too long -/
def Fit : Nat → PyData → Prop
  | n + 1, .list ds => ds.length ≤ 1000000 ∧ ∀ d ∈ ds, Fit n d
  | n + 1, .tuple ds => ds.length ≤ 1000000 ∧ ∀ d ∈ ds, Fit n d
  | 0, .list _ => False
  | 0, .tuple _ => False
  | _, .dict _ => False
  | _, _ => True
theorem frz_int (i : Int) : frz (.int i) = .int i := by rw [frz]
theorem frz_dRow (xs : List Int) : frz (dRow xs) = dRow xs := by
  unfold dRow; rw [frz, frzAll_map, List.map_map]; congr 1
theorem frz_dRowL (xs : List Int) : frz (dRowL xs) = dRow xs := by
  unfold dRow dRowL; rw [frz, frzAll_map, List.map_map]; congr 1
theorem frz_dTab (xs : List (List Int)) : frz (dTab xs) = dTab xs := by
  unfold dTab; rw [frz, frzAll_map, List.map_map]; congr 1
  exact List.map_congr_left (fun i _ => frz_dRow i)
theorem frz_dTabL (xs : List (List Int)) : frz (dTabL xs) = dTab xs := by
  unfold dTab dTabL; rw [frz, frzAll_map, List.map_map]; congr 1
  exact List.map_congr_left (fun i _ => frz_dRowL i)
theorem fit_row {n : Nat} {xs : List Int} (h : xs.length ≤ 1000000) : Fit (n + 1) (dRow xs) := ⟨by rw [List.length_map]; exact h, fun d hd => by
  obtain ⟨i, _, rfl⟩ := List.mem_map.mp hd
  cases n <;> trivial⟩
theorem fit_rowL {n : Nat} {xs : List Int} (h : xs.length ≤ 1000000) : Fit (n + 1) (dRowL xs) := ⟨by rw [List.length_map]; exact h, fun d hd => by
  obtain ⟨i, _, rfl⟩ := List.mem_map.mp hd
  cases n <;> trivial⟩
theorem fit_tab {n : Nat} {xs : List (List Int)} (h : xs.length ≤ 1000000) (h2 : ∀ x ∈ xs, x.length ≤ 1000000) : Fit (n + 2) (dTab xs) := ⟨by rw [List.length_map]; exact h, fun d hd => by
  obtain ⟨i, hi, rfl⟩ := List.mem_map.mp hd
  exact fit_row (h2 i hi)⟩
theorem fit_tabL {n : Nat} {xs : List (List Int)} (h : xs.length ≤ 1000000) (h2 : ∀ x ∈ xs, x.length ≤ 1000000) : Fit (n + 2) (dTabL xs) := ⟨by rw [List.length_map]; exact h, fun d hd => by
  obtain ⟨i, hi, rfl⟩ := List.mem_map.mp hd
  exact fit_rowL (h2 i hi)⟩
def spFz (K : Fg) (n : Nat) : Sp := spG K (fun d : PyData => [.vl tD d]) (fun d => Fit n d) tD frz
theorem rep_DL {K : Fg} {M : Hp} {v : V} {ds : List PyData} (h : Dp K M v (.list ds)) : ∃ a vs, v = .ref a ∧ SqL K M a vs ∧ Paired (tD.rep K M) vs ds := by
  cases h with
  | lst h1 h2 =>
    refine ⟨_, _, rfl, h1, ?_⟩
    have : ∀ {vs : List V} {ds : List PyData}, DpAll K M vs ds → Paired (tD.rep K M) vs ds := by
      intro vs ds
      induction ds generalizing vs with
      | nil => intro h; cases h; exact .nil
      | cons d ds ih => intro h; cases h with | cons a b => exact .cons a (ih b)
    exact this h2
theorem rep_DT {K : Fg} {M : Hp} {v : V} {ds : List PyData} (h : Dp K M v (.tuple ds)) : (tTup tD).rep K M v ds := by
  cases h with
  | tup h1 h2 =>
    refine ⟨_, _, rfl, h1, ?_⟩
    have : ∀ {vs : List V} {ds : List PyData}, DpAll K M vs ds → Paired (tD.rep K M) vs ds := by
      intro vs ds
      induction ds generalizing vs with
      | nil => intro h; cases h; exact .nil
      | cons d ds ih => intro h; cases h with | cons a b => exact .cons a (ih b)
    exact this h2
theorem dpAll_of {K : Fg} {M : Hp} : ∀ {vs : List V} {ds : List PyData}, Paired (tD.rep K M) vs ds → DpAll K M vs ds
  | _, _, .nil => .nil
  | _, _, .cons h t => .cons h (dpAll_of t)
theorem rep_TD {K : Fg} {M : Hp} {v : V} {ds : List PyData} (h : (tTup tD).rep K M v ds) : Dp K M v (.tuple ds) := by
  obtain ⟨a, vs, rfl, h1, h2⟩ := h
  exact .tup h1 (dpAll_of h2)
/-- no name of the module hides a built-in -/
structure Bi (mg : Str → Option Value) : Prop where
  len : mg "len" = none
  int : mg "int" = none
  min : mg "min" = none
  max : mg "max" = none
  range : mg "range" = none
  list : mg "list" = none
  tuple : mg "tuple" = none
  isinstance : mg "isinstance" = none
  str : mg "str" = none
  bool : mg "bool" = none
  sum : mg "sum" = none
  sorted : mg "sorted" = none
  repr : mg "repr" = none
  iter : mg "iter" = none
  enumerate : mg "enumerate" = none
  zip : mg "zip" = none
  reversed : mg "reversed" = none
  any : mg "any" = none
  all : mg "all" = none
  abs : mg "abs" = none
  set : mg "set" = none
  dict : mg "dict" = none
  ve : mg "ValueError" = none
theorem nt {b : Bool} (h : b = false) : ¬ b = true := by rw [h]; decide
theorem ret_is {α : Type} {s : Ty α} {x y : α} {K : Fg} {M : Hp} {v : V} (r : s.rep K M v x) (h : y = x) : s.rep K M v y := by rw [h]; exact r
end TL

namespace TL
open PySem PySem.Spec PyProof.Rows L2
/-! ### lists of lists of the frame's own -/
def cutv (M : Hp) (fp : List Addr) : Hp := fun b => if b ∈ fp then none else M b
theorem unview {M H M' H' : Hp} {fp : List Addr} (hf : ∀ x ∈ fp, M x = none ∧ ∃ vs, H x = some (.lst vs)) (n : Nx (upds M H fp) H M' H') (K : Fg) : Nx M H (cutv M' fp) H' ∧ TupS K M' (cutv M' fp) := by
  refine ⟨⟨n.ex, fun b o e => ?_, fun b o e => ?_, fun b n1 n2 => ?_⟩, fun b xs e => ?_⟩
  · unfold cutv
    by_cases z : b ∈ fp
    · rw [(hf b z).1] at e; cases e
    · rw [if_neg z]
      exact n.vx b o (by unfold upds; rw [if_neg z]; exact e)
  · unfold cutv at e
    by_cases z : b ∈ fp
    · rw [if_pos z] at e; cases e
    · rw [if_neg z] at e; exact n.sub b o e
  · unfold cutv
    by_cases z : b ∈ fp
    · rw [if_pos z]
    · rw [if_neg z]; exact n.fr b (by unfold upds; rw [if_neg z]; exact n1) n2
  · have at' : ∀ b ∈ fp, ∃ vs, M' b = some (.lst vs) := fun b z => by
      obtain ⟨_, vs, hv⟩ := hf b z
      exact ⟨vs, n.vx b _ (by unfold upds; rw [if_pos z]; exact hv)⟩
    rcases e with e | e
    · have z : b ∉ fp := fun z => by
        obtain ⟨vs, hv⟩ := at' b z
        rcases e with e | ⟨o, e⟩
        · rw [hv] at e; cases e
        · rw [hv] at e; cases e
      refine .inl ?_
      rcases e with e | ⟨o, e⟩
      · exact .inl (by unfold cutv; rw [if_neg z]; exact e)
      · exact .inr ⟨o, by unfold cutv; rw [if_neg z]; exact e⟩
    · exact .inr e
/-- a slot is forgotten, whatever its value -/
theorem St.setAny {K : Fg} {M0 H0 M H : Hp} {σ : L2.St} {G : List Sl} (S : St K M0 H0 M H σ G) (i : Nat) (o : Option V) : St K M0 H0 M H (σ.set i o) (G.set i .un) :=
  S.change (fp := []) S.nx (fun h => by cases h) (fun _ _ _ _ _ _ _ _ r => r) trivial
section
variable {α β γ ι ρ : Type} {X : Cx} {G : List Sl} {a b c e : Expr} {es : List Expr} {st : Stmt} {rest th el body : List Stmt} {s : Ty α} {t : Ty β} {u : Ty γ} {x : α} {y : β} {z : γ} {pos : Pos} {i j : Int} {xs ys : List α} {p q : Bool} {R : Out} {k : Nat} {scope : Scope} {own : List (Str × Nat)} {n : Str} {pn : Pos}
theorem e_read2 (m : Nat) {s : Ty α} {xss : List (List α)} (h : G[m]? = some (.o2 s xss)) (hi : Imm X.K t) (he : E X (G.set m (.vl (tLst (tLst s)) xss)) e t y) : E X G e t y := ⟨fun {M0 H0 M H σ} S Q q => by
  obtain ⟨fp, hf, S'⟩ := S.freeze2 h
  refine he.run S' _ fun v M' H' n r => ?_
  obtain ⟨n', ts⟩ := unview (fun x hx => ⟨(hf x hx).1, (hf x hx).2.2⟩) n X.K
  exact q v _ H' n' (hi _ _ _ _ ts r)⟩
theorem t_read2 (m : Nat) {s : Ty α} {xss : List (List α)} {d : Bool} (h : G[m]? = some (.o2 s xss)) (he : T X (G.set m (.vl (tLst (tLst s)) xss)) e d) : T X G e d := ⟨fun {M0 H0 M H σ} S Q q => by
  obtain ⟨fp, hf, S'⟩ := S.freeze2 h
  refine he.run S' _ fun M' H' n => ?_
  obtain ⟨n', ts⟩ := unview (fun x hx => ⟨(hf x hx).1, (hf x hx).2.2⟩) n X.K
  exact q _ H' n'⟩
theorem b_freeze2 (m : Nat) {s : Ty α} {xss : List (List α)} (h : G[m]? = some (.o2 s xss)) (hb : B X (G.set m (.vl (tLst (tLst s)) xss)) rest R) : B X G rest R := ⟨fun D E S tk f => by
  obtain ⟨fp, _, S'⟩ := S.freeze2 h
  exact hb.run D E S' tk f⟩
theorem nodup_set : ∀ {bs : List Addr} (l : Nat) {p : Addr}, bs.Nodup → p ∉ bs → (bs.set l p).Nodup ∧ ∀ x ∈ bs.set l p, x = p ∨ x ∈ bs
  | [], _, _, h, _ => ⟨by simp, fun x hx => by simp at hx⟩
  | b :: bs, 0, p, h, hp => by
    rw [List.set_cons_zero]
    refine ⟨List.nodup_cons.mpr ⟨fun z => hp (by simp [z]), (List.nodup_cons.mp h).2⟩, fun x hx => ?_⟩
    rcases List.mem_cons.mp hx with z | z
    · exact .inl z
    · exact .inr (by simp [z])
  | b :: bs, l + 1, p, h, hp => by
    rw [List.set_cons_succ]
    obtain ⟨h1, h2⟩ := nodup_set (bs := bs) l (List.nodup_cons.mp h).2 (fun z => hp (List.mem_cons_of_mem _ z))
    refine ⟨List.nodup_cons.mpr ⟨fun z => ?_, h1⟩, fun x hx => ?_⟩
    · rcases h2 b z with z | z
      · exact hp (by rw [z]; simp)
      · exact (List.nodup_cons.mp h).1 z
    · rcases List.mem_cons.mp hx with z | z
      · exact .inr (by simp [z])
      · rcases h2 x z with z | z
        · exact .inl z
        · exact .inr (by simp [z])
/-- name[ib] = [..] -/
theorem s_set2 (m : Nat) {n : Str} {p1 : Pos} {ib : Expr} {l : Nat} {xss : List (List α)} {xs : List α} (h0 : G[m]? = some (.o2 s xss)) (he : EL X G e s xs) (hib : E X G ib tI i) (hm : ixN xss.length i = some l) (h : R.nx (G.set m (.o2 s (xss.set l xs)))) (hi : X.N[m]? = some n := by rfl)
    (hv : Vis X.env.scope n := by first | exact Or.inl rfl | exact Or.inr (Or.inl rfl) | exact Or.inr (Or.inr rfl))
    (hd : (n == ("__debug__" : Str)) = false := by decide) (hcd : (n == ("__classdict__" : Str)) = false := by decide) {p2 : Pos}
    (ha : ∀ v, assign (.Subscript (.Name n p1) ib p2) X.env v = (do
      let ov ← holding [v] (eval (.Name n p1) X.env)
      let iv ← holding [v, ov] (eval ib X.env)
      standAt p2
      holding [v, ov, iv] (setItem ov iv v)
      release [v, ov, iv] []) := by intro _; rfl)
    (hs : swapsWithSole [.Subscript (.Name n p1) ib p2] e pos.line X.env = pure false := by rfl) (hw : swappedStores [.Subscript (.Name n p1) ib p2] e X.env = pure none := by rfl)
    (h1 : (assignEach [.Subscript (.Name n p1) ib p2] X.env).map (·.2) = [assign (.Subscript (.Name n p1) ib p2) X.env] := by rfl) :
    S1 X G (.Assign [.Subscript (.Name n p1) ib p2] e pos) R := ⟨fun {M0 H0 M H σ} D E S tk f => by
  refine ⟨_, ps_asg pe_w (pg_sub (pe_var hi hv hd hcd) pe_w set_list ha) hs hw h1, ?_⟩
  refine he.run S _ fun p M1 H1 vs n1 hp mp hh r1 => ?_
  have key : ∀ M2 H2, Nx M1 H1 M2 H2 → ∃ (a : Addr) (bs : List Addr), σ[m]? = some (some (.ref a)) ∧ H2 a = some (.lst (bs.map V.ref)) ∧ bs.length = xss.length ∧ St X.K M0 H0 M2 (upd H2 a (.lst ((bs.set l p).map V.ref))) σ (G.set m (.o2 s (xss.set l xs))) := fun M2 H2 n2 =>
    S.new2 (cs := fun bs => bs.set l p) (yss := xss.set l xs) h0 (n1.trans n2) hp (n2.fr p mp (by rw [hh]; simp)) (n2.ex _ _ hh) (paired_imp (fun _ _ q => s.ext n2.vx q) r1) (fun bs _ nd pb => nodup_set l nd pb) (fun f1 pr => paired_set f1 l pr)
  obtain ⟨a0, bs0, e0, _⟩ := key M1 H1 (Nx.refl n1.sub)
  refine ⟨.ref a0, e0, hib.run (S.next n1) _ fun w M2 H2 n2 r2 => ?_⟩
  obtain ⟨a, bs, e1, hh2, hl, S'⟩ := key M2 H2 n2
  rw [e0] at e1; cases e1
  refine ⟨a0, _, i, l, rfl, r2, hh2, by rw [List.length_map, hl]; exact hm, ?_⟩
  rw [List.map_set] at S'
  exact f.nx S' h⟩
/-- line = name[i]; line[j] = e: an item of an item is exchanged -/
theorem b_alias (m m2 : Nat) {n n2 : Str} {q1 q2 q3 q4 q5 ps1 ps2 : Pos} {ib jb : Expr} {l r : Nat} {i j : Int} {xss : List (List α)} {xs : List α} (h0 : G[m]? = some (.o2 s xss)) (hne : m ≠ m2) (hib : E X G ib tI i) (hl : ixN xss.length i = some l) (hxs : xss[l]? = some xs)
    (he : E X ((G.set m (.vl (tLst (tLst s)) xss)).set m2 (.vl (tLst s) xs)) e s x) (hei : Imm X.K s) (hjb : E X (G.set m2 .un) jb tI j) (hr : ixN xs.length j = some r) (h : B X ((G.set m (.o2 s (xss.set l (xs.set r x)))).set m2 .un) rest R) (hml : (G[m2]?).isSome = true := by rfl)
    (hN : X.N.Nodup) (hi : X.N[m]? = some n := by rfl) (hi2 : X.N[m2]? = some n2 := by rfl) (hx2 : Loc X.env.scope n2 := by first | exact Or.inl rfl | exact Or.inr rfl) (hf2 : X.fn n2 = true ∨ X.env.scope.names.lookup n2 = some .local := by first | exact .inl rfl | exact .inr rfl)
    (hv : Vis X.env.scope n := by first | exact Or.inl rfl | exact Or.inr (Or.inl rfl) | exact Or.inr (Or.inr rfl)) (hv2 : Vis X.env.scope n2 := by first | exact Or.inl rfl | exact Or.inr (Or.inl rfl) | exact Or.inr (Or.inr rfl))
    (hd : (n == ("__debug__" : Str)) = false := by decide) (hcd : (n == ("__classdict__" : Str)) = false := by decide) (hd2 : (n2 == ("__debug__" : Str)) = false := by decide) (hcd2 : (n2 == ("__classdict__" : Str)) = false := by decide)
    (hsl : PlainIx ib := by exact fun _ _ => rfl) (hs1 : swapsWith (.Subscript (.Name n q1) ib q2) (some (.Name n2 q3)) ps1.line X.env = pure false := by rfl)
    (ha : ∀ v, assign (.Subscript (.Name n2 q4) jb q5) X.env v = (do
      let ov ← holding [v] (eval (.Name n2 q4) X.env)
      let iv ← holding [v, ov] (eval jb X.env)
      standAt q5
      holding [v, ov, iv] (setItem ov iv v)
      release [v, ov, iv] []) := by intro _; rfl)
    (hs : swapsWithSole [.Subscript (.Name n2 q4) jb q5] e ps2.line X.env = pure false := by rfl) (hw : swappedStores [.Subscript (.Name n2 q4) jb q5] e X.env = pure none := by rfl)
    (h1 : (assignEach [.Subscript (.Name n2 q4) jb q5] X.env).map (·.2) = [assign (.Subscript (.Name n2 q4) jb q5) X.env] := by rfl) :
    B X G (.Assign [.Name n2 q3] (.Subscript (.Name n q1) ib q2) ps1 :: .Assign [.Subscript (.Name n2 q4) jb q5] e ps2 :: rest) R := ⟨fun {M0 H0 M H σ} D E S tk f => by
  refine ⟨_, pss_cons (ps_set hN hi2 hx2 (pe_ix ix_list (pe_var hi hv hd hcd) pe_w hsl) hs1 hf2) (pss_cons (ps_asg pe_w (pg_sub (pe_var hi2 hv2 hd2 hcd2) pe_w set_list ha) hs hw h1) pss_w), ?_⟩
  obtain ⟨a0, bs0, b0, vs0, e0, _⟩ := S.put2 (ys := xs) h0 hxs
  refine ⟨.ref a0, e0, hib.run S _ fun w M1 H1 n1 r1 => ?_⟩
  obtain ⟨a, bs, b, vs, e1, ha1, hbl, hb1, hb, hbm, pr, _⟩ := (S.next n1).put2 (ys := xs) h0 hxs
  rw [e0] at e1; cases e1
  have hat : atI (bs.map V.ref) i = some (.ref b) := by
    unfold atI
    rw [List.length_map, hbl, hl]
    show (bs.map V.ref)[l]? = _
    rw [List.getElem?_map, hb1]; rfl
  refine ⟨a0, _, i, .ref b, rfl, r1, SqL.of ha1, hat, ?_⟩
  -- e is read while all is frozen
  have S1 := S.next n1
  obtain ⟨fp, hf, Sf⟩ := S1.freeze2 h0
  obtain ⟨vt, evt, ta, tvs, te1, te2, te3⟩ := Sf.get (t := tLst (tLst s)) (x := xss) (i := m) (by rw [List.getElem?_set_self (List.getElem?_eq_some_iff.mp h0).1])
  rw [e0] at evt; cases evt
  cases te1
  have tvs' : tvs = bs.map V.ref := by
    have := Sf.sub _ _ te2
    rw [ha1] at this; injection this with this; injection this with this; exact this.symm
  subst tvs'
  obtain ⟨vb, evb, rb⟩ := paired_get te3 hxs
  rw [List.getElem?_map, hb1] at evb
  cases evb
  refine he.run (Sf.set (s := .vl (tLst s) xs) (i := m2) (v := .ref b) rb) _ fun v M2 H2 n2 r2 => ?_
  obtain ⟨n2', ts⟩ := unview (fun x hx => ⟨(hf x hx).1, (hf x hx).2.2⟩) n2 X.K
  have r2' := hei _ _ _ _ ts r2
  have m2l : m2 < σ.length := by
    rw [S.len]
    exact (List.getElem?_eq_some_iff.mp (Option.isSome_iff_exists.mp hml).choose_spec).1
  have S2 := (S1.next n2').setAny m2 (some (.ref b))
  refine ⟨.ref b, List.getElem?_set_self m2l, hjb.run S2 _ fun w3 M3 H3 n3 r3 => ?_⟩
  obtain ⟨a3, bs3, b3, vs3, e3, ha3, hbl3, hb3, hv3, hm3, pr3, S3⟩ := (S1.next (n2'.trans n3)).put2 (ys := xs.set r x) h0 hxs
  rw [e0] at e3; cases e3
  have ebs : bs = bs3 := by
    have q1 := (n2'.ex.trans n3.ex) _ _ ha1
    rw [ha3] at q1
    injection q1 with q1; injection q1 with q1
    exact (refs_inj q1).symm
  subst ebs
  rw [hb1] at hb3; cases hb3
  have S4 := (S3 (vs3.set r v) (paired_set (s.ext n3.vx r2') r pr3)).setAny m2 (some (.ref b))
  exact ⟨b, vs3, j, r, rfl, r3, hv3, by rw [pr3.length]; exact hr, h.run D E S4 tk f⟩⟩
/-- behind m turns: the list at D holds new lists -/
def LcI2 (K : Fg) (t : Ty β) (M1 H1 : Hp) (D : Addr) (yss : List (List β)) (H : Hp) : Prop := ∃ (M : Hp) (bs : List Addr), Nx M1 H1 M H ∧ M D = none ∧ H D = some (.lst (bs.map V.ref)) ∧ D ∉ bs ∧ bs.Nodup ∧ (∀ x ∈ bs, H1 x = none) ∧ Paired (fun b ys => M b = none ∧ ∃ vs, H b = some (.lst vs) ∧ Paired (t.rep K M) vs ys) bs yss
theorem paired_mem {α β : Type} {F G : α → β → Prop} : ∀ {l₁ : List α} {l₂ : List β}, Paired F l₁ l₂ → (∀ a b, a ∈ l₁ → F a b → G a b) → Paired G l₁ l₂
  | _, _, .nil, _ => .nil
  | _, _, .cons h t, f => .cons (f _ _ (by simp) h) (paired_mem t fun a b ha => f a b (by simp [ha]))
theorem lcI2_turn {X X' : Cx} {G : List Sl} {e : Expr} {t : Ty β} {ys : List β} {M0 H0 M1 H1 H : Hp} {D : Addr} {yss : List (List β)} {σ : L2.St} (hK : X'.K = X.K) (hD : H1 D = none) (hI : LcI2 X.K t M1 H1 D yss H) (hz : yss.length < 1000000)
    (S : ∀ M, Nx M1 H1 M H → St X'.K M0 H0 M H σ G) (he : EL X' G e t ys) : wE X' e σ H fun v H4 => ∃ acc, H4 D = some (.lst acc) ∧ acc.length < sizeLine ∧ LcI2 X.K t M1 H1 D (yss ++ [ys]) (upd H4 D (.lst (acc ++ [v]))) := by
  obtain ⟨M, bs, n, hm, hh, hDb, nd, hf, pr⟩ := hI
  refine he.run (S M n) _ fun p M' H' vs n' hp mp hv r => ?_
  have h4 := n'.ex _ _ hh
  have mD : M' D = none := n'.fr D hm (by rw [hh]; simp)
  have nn := n.trans n'
  have pD : p ≠ D := fun z => by rw [z, hh] at hp; cases hp
  have pb : p ∉ bs := fun z => by
    obtain ⟨k, hk⟩ := List.getElem?_of_mem z
    obtain ⟨_, _, _, us, hu, _⟩ := paired_get' pr hk
    rw [hp] at hu; cases hu
  refine ⟨bs.map V.ref, h4, by rw [List.length_map, pr.length]; exact Nat.lt_of_lt_of_le hz (by decide), M', bs ++ [p], ⟨fun b o q => ?_, nn.vx, fun b o q => ?_, nn.fr⟩, mD, ?_, ?_, ?_, ?_, paired_app ?_ (.cons ⟨mp, vs, by rw [upd_ne pD]; exact hv, by rw [← hK]; exact r⟩ .nil)⟩
  · rw [upd_ne (ne_of_none q hD)]; exact nn.ex b o q
  · rw [upd_ne (ne_of_none q mD)]; exact nn.sub b o q
  · rw [upd_same, List.map_append]; rfl
  · intro z
    rcases List.mem_append.mp z with z | z
    · exact hDb z
    · exact pD (List.mem_singleton.mp z).symm
  · refine List.nodup_append.mpr ⟨nd, by simp, fun x hx y hy z => pb ?_⟩
    rw [← List.mem_singleton.mp hy, ← z]; exact hx
  · intro x hx
    rcases List.mem_append.mp hx with z | z
    · exact hf x z
    · rw [List.mem_singleton.mp z]; exact n.ex.free hp
  · refine paired_mem pr fun b xs hb ⟨q1, us, q2, q3⟩ => ⟨n'.fr b q1 (by rw [q2]; simp), us, ?_, paired_imp (fun _ _ q => t.ext n'.vx q) q3⟩
    rw [upd_ne (fun z => hDb (by rw [← z]; exact hb))]; exact n'.ex _ _ q2
theorem lcI2_start {K : Fg} {t : Ty β} {M1 H1 : Hp} {D : Addr} (m : Same M1 H1) (hD : H1 D = none) : LcI2 K t M1 H1 D [] (upd H1 D (.lst [])) :=
  ⟨M1, [], nx_lay m hD, same_none m hD, upd_same, by simp, by simp, by simp, .nil⟩
/-- name = [new list for x in tuple] -/
theorem s_lc2T {f : α → List β} {xs : List α} {nm : Str} {py pos' : Pos} (k i : Nat) (he : E X G a (tTup s) xs)
    (hel : ∀ (s0 : Shared) (H : Hp) (C : Addr) (cl : List (Str × Addr)) (fp : List Addr) (m : Nat) (x : α), xs[m]? = some x → EL (X.blk s0 H scope (compEnvC scope cl C X.env) fp) ((wipeG G (own.map (·.2))).set i (.vl s x)) e t (f x))
    (ok : BlkOk X.N X.env.scope scope own) (hz : xs.length ≤ 1000000)
    (hg : ∀ (s0 : Shared) (H : Hp) (C : Addr) (cl : List (Str × Addr)) (fp : List Addr), PG (X.blk s0 H scope (compEnvC scope cl C X.env) fp) (.Name n pn) (gName i)) (hnx : R.nx (G.set k (.o2 t (xs.map f)))) (hcm : X.calm = true) (hN : X.N.Nodup) (hio : i ∈ own.map (·.2) := by decide) (hi : X.N[k]? = some nm := by rfl)
    (hy : X.env.scope.names.lookup nm = some .local := by rfl) (hsw : swapsWith (.ListComp e [⟨.Name n pn, a, [], 0⟩] scope pos) (some (.Name nm py)) pos'.line X.env = pure true := by first | exact sw_true rfl rfl rfl (by decide +kernel) | rfl)
    (hs : ∀ x, foldedSetIterable a X.env x = pure x := by intro _; rfl) : S1 X G (.Assign [.Name nm py] (.ListComp e [⟨.Name n pn, a, [], 0⟩] scope pos) pos') R := ⟨fun {M0 H0 M H σ} D0 E S tk ff => by
  refine ⟨_, ps_setLc hcm hN hi hy hsw (pi_tup pe_w) ok hg (fun _ _ _ _ _ => pts_nil) (te := wBlk X scope e) (fun s0 H C cl fp => pe_blk s0 H C cl fp) hs, ?_⟩
  refine he.run S _ fun v M1 H1 n1 r1 => ?_
  obtain ⟨p, vs, e1, e2, e3⟩ := r1
  refine ⟨p, e1, ⟨vs, sqT_ext n1.sub e2⟩, fun D hD => lc_tup (K := X.K) (a := p) (xs := vs) (fun m H' => LcI2 X.K t M1 H1 D ((xs.take m).map f) H') (lcI2_start n1.sub hD) (fun m H' _ ⟨M', _, n', _⟩ => sqT_ext (n'.vx.trans n'.sub) e2) ?_ ?_⟩
  · intro m w H' hm hI
    obtain ⟨x', g1, g2⟩ := paired_get' e3 hm
    refine ⟨wiped hio, fun s0 H2 C cl fp => ?_⟩
    rw [take_snoc g1, List.map_append]
    have hl : ((xs.take m).map f).length < 1000000 := by
      have := (List.getElem?_eq_some_iff.mp g1).1
      rw [List.length_map, List.length_take]; omega
    exact lcI2_turn (X := X) rfl hD hI hl (fun M' n' => St.block (S.next n1) n' _ i g2) (hel s0 H2 C cl fp m x' g1)
  · rintro H' ⟨M', bs, n', mD, hh, hDb, nd, hf, pr⟩
    rw [e3.length, List.take_length] at pr
    exact ff.nx (S.setOwn2 (n1.trans n') (n1.ex.free hD) mD hh (fun x hx => n1.ex.free (hf x hx)) hDb nd pr) hnx⟩
end
end TL

namespace TL
open PySem PySem.Spec PyProof.Rows L2
theorem repsExt {K : Fg} {M M' : Hp} (e : Same M M') : ∀ {vs : List V} {ss : List Sl}, Reps K M vs ss → Reps K M' vs ss
  | _, _, .nil => .nil
  | _, _, .cons (t := t) h r => .cons (t.ext e h) (repsExt e r)
theorem repsApp {K : Fg} {M : Hp} : ∀ {vs ws : List V} {ss ts : List Sl}, Reps K M vs ss → Reps K M ws ts → Reps K M (vs ++ ws) (ss ++ ts)
  | _, _, _, _, .nil, r => r
  | _, _, _, _, .cons h r, q => .cons h (repsApp r q)
theorem paired_nil_r {α β : Type} {F : α → β → Prop} {xs : List α} (h : Paired F xs []) : xs = [] := List.eq_nil_of_length_eq_zero h.length
section
variable {α β γ ι ρ : Type} {X : Cx} {G : List Sl} {a b c e : Expr} {es rest : List Expr} {s : Ty α} {t : Ty β} {u : Ty γ} {x : α} {y : β} {z : γ} {pos : Pos} {k : Nat}
/-- t + u, of any length -/
theorem e_catA {xs ys : List α} (ha : E X G a (tTup s) xs) (hb : E X G b (tTup s) ys) (hz : xs.length + ys.length ≤ 1000000) : E X G (.BinOp a .Add b pos) (tTup s) (xs ++ ys) := e_op2 op_catA ha hb fun M H v w Q m h1 h2 k => by
  obtain ⟨p, vs, e1, e2, e3⟩ := h1
  obtain ⟨q, ws, f1, f2, f3⟩ := h2
  have l1 := e3.length
  have l2 := f3.length
  refine ⟨p, q, vs, ws, e1, f1, sqT_ext m e2, sqT_ext m f2, by rw [l1, l2]; exact Nat.le_trans hz (by decide), fun z => ?_, fun _ z => ?_, fun _ _ r hr => ?_⟩
  · have : xs = [] := by rw [z] at l1; exact List.eq_nil_of_length_eq_zero l1.symm
    rw [this, List.nil_append] at k
    exact k _ M H (Nx.refl m) ⟨q, ws, rfl, f2, f3⟩
  · have : ys = [] := by rw [z] at l2; exact List.eq_nil_of_length_eq_zero l2.symm
    rw [this, List.append_nil] at k
    exact k _ M H (Nx.refl m) ⟨p, vs, rfl, e2, e3⟩
  · exact k _ _ _ (Nx.new m hr) ⟨r, _, rfl, .inl (.inl upd_same), paired_imp (fun _ _ q => s.ext (same_new (same_none m hr)) q) (paired_app e3 f3)⟩
/-! ### keyword-only parameters -/
def wK (X : Cx) (kws : List Keyword) : TA := fun σ H Q => ∃ t, PK X kws t ∧ t σ H Q
theorem pk_w {X : Cx} {kws : List Keyword} : PK X kws (wK X kws) := ⟨fun pos pins s σ H Q I ⟨_, p, h⟩ => p.run pos pins s σ H Q I h⟩
structure EK (X : Cx) (G : List Sl) (es : List Keyword) (ss : List Sl) : Prop where
  run : ∀ {M0 H0 M H : Hp} {σ : L2.St}, St X.K M0 H0 M H σ G → ∀ (Q : List V → Hp → Prop), (∀ vs M' H', Nx M H M' H' → Reps X.K M' vs ss → Q vs H') → wK X es σ H Q
theorem ek_nil : EK X G [] [] := ⟨fun S Q k => ⟨_, pk_nil, k _ _ _ (Nx.refl S.sub) .nil⟩⟩
theorem ek_cons {kws : List Keyword} {ss : List Sl} {nm : Option Str} {kp : Pos} (h : E X G a s x) (hr : EK X G kws ss) : EK X G (⟨nm, a, kp⟩ :: kws) (.vl s x :: ss) := ⟨fun S Q k =>
  ⟨_, pk_cons pe_w pk_w, h.run S _ fun v M1 H1 n1 r1 => hr.run (S.next n1) _ fun vs M2 H2 n2 r2 => k _ M2 H2 (n1.trans n2) (.cons (s.ext n2.vx r1) r2)⟩⟩
/-- a def with keyword-only parameters, as its callers know it -/
structure FnD (P : Program) (w : World) (K : Fg) (mg : Str → Option Value) (base : Heap) (CX : CXT) (k : Nat) (name : Str) (ps : List Str) (n : Nat) (ks : List Str) (dvs : List V) (sp : Sp) : Prop where
  ex : ∃ f fd, mg name = some (.ref f) ∧ PySem.W.keepIn K (.ref f) = true ∧ (∃ ds, Vals dvs ds ∧ Binds K fd ps ds) ∧ KBn K fd ps n ks (fun us ws => us ++ ws) (fun vs zs => vs ++ zs) ∧ FnOk P w K mg base CX k f fd ps sp
theorem e_callD {P : Program} {w : World} {K : Fg} {mg : Str → Option Value} {base : Heap} {n : Str} {ps ks : List Str} {nn : Nat} {dvs : List V} {ar : ι → List Sl} {pre : ι → Prop} {tr : Ty ρ} {out : ι → ρ} {p : Pos} {as ds : List Sl} (C : FnD P w K mg base CX0 k n ps nn ks dvs (spG K ar pre tr out)) (hr : Room k X.A) (i : ι) (ha : EA X G (e :: es) as) (hd : ∀ M, Reps K M dvs ds) (har : ar i = as ++ ds) (hp : pre i)
    (hg : Gl X n := by rfl) (hdb : (n == ("__debug__" : Str)) = false := by decide) (he : starEach (e :: es) X.env = (false, eval e X.env) :: starEach es X.env := by rfl) (hpl : (backTo pos (starEach es X.env)).any (·.1) = false := by rfl)
    (xP : X.prog = P := by rfl) (xw : X.w = w := by rfl) (xK : X.K = K := by rfl) (xm : X.mg = mg := by rfl) (xb : X.base = base := by rfl) : E X G (.Call (.Name n p) (e :: es) [] pos) tr (out i) := ⟨fun S Q q => by
  subst xP xw xK xm xb
  obtain ⟨f, fd, hm, hk, ⟨dz, hv, hb⟩, _, F⟩ := C.ex
  refine ⟨_, pe_call F hr hg hm hk hb hv pass0 pa_w hdb he hpl, ha.run S _ fun vs M1 H1 n1 r1 => ?_⟩
  exact ⟨i, M1, n1.sub, by rw [har]; exact repsApp r1 (hd M1), hp, fun v M2 H2 n2 r2 => q v M2 H2 (n1.trans n2) r2⟩⟩
theorem e_callK {P : Program} {w : World} {K : Fg} {mg : Str → Option Value} {base : Heap} {n : Str} {ps ks : List Str} {nn : Nat} {dvs : List V} {ar : ι → List Sl} {pre : ι → Prop} {tr : Ty ρ} {out : ι → ρ} {p : Pos} {as bs : List Sl} {kws : List Keyword} (C : FnD P w K mg base CX0 k n ps nn ks dvs (spG K ar pre tr out)) (hr : Room k X.A) (i : ι) (ha : EA X G (e :: es) as) (hkw : EK X G kws bs) (har : ar i = as ++ bs) (l1 : as.length = nn) (l2 : bs.length = ks.length) (hp : pre i)
    (hg : Gl X n := by rfl) (hall : (backToKw pos (keywordEach kws X.env)).all (·.1.isSome) = true := by rfl) (hks : (backToKw pos (keywordEach kws X.env)).filterMap (·.1) = ks := by rfl)
    (hdb : (n == ("__debug__" : Str)) = false := by decide) (he : starEach (e :: es) X.env = (false, eval e X.env) :: starEach es X.env := by rfl)
    (hpl : ((backTo pos (starEach (e :: es) X.env)).any (·.1) || (backToKw pos (keywordEach kws X.env)).any (·.1.isNone)) = false := by rfl)
    (xP : X.prog = P := by rfl) (xw : X.w = w := by rfl) (xK : X.K = K := by rfl) (xm : X.mg = mg := by rfl) (xb : X.base = base := by rfl) : E X G (.Call (.Name n p) (e :: es) kws pos) tr (out i) := ⟨fun S Q q => by
  subst xP xw xK xm xb
  obtain ⟨f, fd, hm, hk, _, hb, F⟩ := C.ex
  refine ⟨_, pe_callN F hr hg hm hk hb pass0 pa_w pk_w hall hks hdb he hpl, ha.run S _ fun vs M1 H1 n1 r1 => hkw.run (S.next n1) _ fun zs M2 H2 n2 r2 => ?_⟩
  exact ⟨by rw [reps_len r1, l1], by rw [reps_len r2, l2], i, M2, n2.sub, by rw [har]; exact repsApp (repsExt n2.vx r1) r2, hp, fun v M3 H3 n3 r3 => q v M3 H3 ((n1.trans n2).trans n3) r3⟩⟩
end
/-! ### [e for a, b in xs] -/
theorem wipe_get : ∀ (us : List Nat) (τ : L2.St) (j : Nat), (L2.wipe τ us)[j]? = if j ∈ us then (if j < τ.length then some none else none) else τ[j]? := by
  intro us
  induction us with
  | nil => intro τ j; simp [L2.wipe]
  | cons u us ih =>
    intro τ j
    show ((L2.wipe τ us).set u none)[j]? = _
    by_cases hj : u = j
    · subst hj
      rw [List.getElem?_set]
      simp [wipe_length]
    · rw [List.getElem?_set_ne hj, ih τ j]
      have : (j ∈ u :: us) ↔ j ∈ us := by simp [Ne.symm hj]
      simp [this]
theorem wipe_set {σ : L2.St} {o : Option V} {i : Nat} {vs : List Nat} (hi : i ∈ vs) : L2.wipe (σ.set i o) vs = L2.wipe σ vs := by
  apply List.ext_getElem?
  intro j
  rw [wipe_get, wipe_get]
  by_cases hj : j ∈ vs
  · rw [if_pos hj, if_pos hj, List.length_set]
  · rw [if_neg hj, if_neg hj, List.getElem?_set_ne (fun z => hj (by rw [← z]; exact hi))]
section
variable {α β γ : Type} {X : Cx} {G : List Sl} {a e : Expr} {s : Ty α} {t : Ty β} {u : Ty γ} {scope : Scope} {own : List (Str × Nat)}
theorem lc_L2 {n1 n2 : Str} {q1 q2 q3 : Pos} {kt : Nat} {f : α × β → γ} {zs : List (α × β)} (he : E X G a (tLst (tP2 s t)) zs) (i j : Nat)
    (hel : ∀ (s0 : Shared) (H : Hp) (C : Addr) (cl : List (Str × Addr)) (fp : List Addr) (m : Nat) (x : α) (y : β), zs[m]? = some (x, y) → E (X.blk s0 H scope (compEnvC scope cl C X.env) fp) (((wipeG G (own.map (·.2))).set i (.vl s x)).set j (.vl t y)) e u (f (x, y)))
    (ok : BlkOk X.N X.env.scope scope own) (hz : zs.length ≤ 1000000) (hcm : X.calm = true)
    (hg1 : ∀ (s0 : Shared) (H : Hp) (C : Addr) (cl : List (Str × Addr)) (fp : List Addr), PG (X.blk s0 H scope (compEnvC scope cl C X.env) fp) (.Name n1 q1) (gName i))
    (hg2 : ∀ (s0 : Shared) (H : Hp) (C : Addr) (cl : List (Str × Addr)) (fp : List Addr), PG (X.blk s0 H scope (compEnvC scope cl C X.env) fp) (.Name n2 q2) (gName j)) (hio : i ∈ own.map (·.2) := by decide) (hjo : j ∈ own.map (·.2) := by decide)
    (hs : ∀ x, foldedSetIterable a X.env x = pure x := by intro _; rfl) : LC X G e (.Tuple [.Name n1 q1, .Name n2 q2] kt q3) a [] scope u (zs.map f) := ⟨_, gTup X.K 2 (gCons (gName i) (gCons (gName j) gNil)), _, wBlk X scope e, own, (pi_list pe_w), ok, (fun s0 H C cl fp => pg_tup (X := X.blk s0 H scope (compEnvC scope cl C X.env) fp) hcm (pgs_cons (hg1 s0 H C cl fp) (pgs_cons (hg2 s0 H C cl fp) pgs_nil rfl) rfl) rfl rfl), (fun _ _ _ _ _ => pts_nil), (fun s0 H C cl fp => pe_blk s0 H C cl fp), hs, fun {M0 H0 M H σ} S Q q => by
  refine he.run S _ fun v M1 H1 n1 r1 => ?_
  obtain ⟨p, vs, e1, e2, e3⟩ := r1
  refine ⟨p, e1, ⟨vs, SqL.of (n1.sub _ _ e2)⟩, fun D hD => lc_list (K := X.K) (a := p) (xs := vs) (fun m H' => LcI X.K u M1 H1 D ((zs.take m).map f) H') (lcI_start n1.sub hD) (fun m H' _ ⟨M', _, n', _⟩ => SqL.of (n'.sub _ _ (n'.vx _ _ e2))) ?_ ?_⟩
  · intro m w H' hm hI
    obtain ⟨⟨x', y'⟩, g1, g2⟩ := paired_get' e3 hm
    obtain ⟨pa, v1, v2, f1, f2, f3, f4⟩ := g2
    obtain ⟨M', ws, n', mD, hh, pr⟩ := id hI
    refine ⟨pa, [v1, v2], f1, sqT_ext (n'.vx.trans n'.sub) f2, rfl, v1, [v2], rfl, v2, [], rfl, rfl, ?_⟩
    refine ⟨?_, fun s0 H2 C cl fp => ?_⟩
    · rw [wipe_set hjo, wipe_set hio]
      exact List.ext_getElem? fun l => by
        rw [wipe_get, wipe_get]
        by_cases hl : l ∈ own.map (·.2)
        · rw [if_pos hl, if_pos hl, wipe_length]
        · rw [if_neg hl, if_neg hl]
    · rw [take_snoc g1, List.map_append]
      have hl : ((zs.take m).map f).length < 1000000 := by
        have := (List.getElem?_eq_some_iff.mp g1).1
        rw [List.length_map, List.length_take]; omega
      exact lcI_turn (X := X) rfl hD hI hl (fun M' n' => (St.block (S.next n1) n' _ i f3).set (s := .vl t y') (v := v2) (t.ext n'.vx f4)) (hel s0 H2 C cl fp m x' y' g1)
  · rintro H' ⟨M', ws, n', mD, hh, pr⟩
    rw [e3.length, List.take_length] at pr
    exact q D M' H' ws (n1.trans n') (n1.ex.free hD) mD hh pr⟩
end
end TL


namespace TL
open PySem PySem.Spec PyProof.Rows L2
theorem layInts : ∀ ns : List Int, PyData.canLayAll0 (ns.map PyData.int) = true
  | [] => by rw [List.map_nil, PyData.canLayAll0]
  | n :: ns => by rw [List.map_cons, PyData.canLayAll0, layInts ns, PyData.canLay0]; rfl
theorem depInts : ∀ ns : List Int, PyData.depthAll (ns.map PyData.int) = 0
  | [] => by rw [List.map_nil, PyData.depthAll]
  | n :: ns => by rw [List.map_cons, PyData.depthAll, depInts ns, PyData.depth]; rfl
theorem eqvInts : ∀ ns ms : List Int, PyData.eqvAll (ns.map PyData.int) (ms.map PyData.int) = decide (ns = ms)
  | [], [] => by simp [PyData.eqvAll]
  | [], m :: ms => by simp [PyData.eqvAll]
  | n :: ns, [] => by simp [PyData.eqvAll]
  | n :: ns, m :: ms => by
    rw [List.map_cons, List.map_cons, PyData.eqvAll, eqvInts ns ms]
    by_cases h : n = m <;> simp [PyData.eqv, h]
theorem sh_row (ns : List Int) : SeqAt.shaped (dRow ns) = true := by
  unfold dRow SeqAt.shaped; rw [PyData.canLay0, PyData.depth, layInts, depInts]; rfl
theorem sh_rowL (ns : List Int) : SeqAt.shaped (dRowL ns) = true := by
  unfold dRowL SeqAt.shaped; rw [PyData.canLay0, PyData.depth, layInts, depInts]; rfl
theorem eqv_row (a b : List Int) : PyData.eqv (dRow a) (dRow b) = decide (a = b) := by
  unfold dRow; rw [PyData.eqv, eqvInts]
theorem eqv_rowL (a b : List Int) : PyData.eqv (dRowL a) (dRowL b) = decide (a = b) := by
  unfold dRowL; rw [PyData.eqv, eqvInts]
theorem layRows : ∀ ns : List (List Int), PyData.canLayAll0 (ns.map dRow) = true
  | [] => by rw [List.map_nil, PyData.canLayAll0]
  | n :: ns => by rw [List.map_cons, PyData.canLayAll0, layRows ns]; unfold dRow; rw [PyData.canLay0, layInts]; rfl
theorem layRowsL : ∀ ns : List (List Int), PyData.canLayAll0 (ns.map dRowL) = true
  | [] => by rw [List.map_nil, PyData.canLayAll0]
  | n :: ns => by rw [List.map_cons, PyData.canLayAll0, layRowsL ns]; unfold dRowL; rw [PyData.canLay0, layInts]; rfl
theorem depRows : ∀ ns : List (List Int), PyData.depthAll (ns.map dRow) ≤ 1
  | [] => by rw [List.map_nil, PyData.depthAll]; omega
  | n :: ns => by
    have := depRows ns
    rw [List.map_cons, PyData.depthAll]; unfold dRow; rw [PyData.depth, depInts]; unfold dRow at this; omega
theorem depRowsL : ∀ ns : List (List Int), PyData.depthAll (ns.map dRowL) ≤ 1
  | [] => by rw [List.map_nil, PyData.depthAll]; omega
  | n :: ns => by
    have := depRowsL ns
    rw [List.map_cons, PyData.depthAll]; unfold dRowL; rw [PyData.depth, depInts]; unfold dRowL at this; omega
theorem sh_tab (ns : List (List Int)) : SeqAt.shaped (dTab ns) = true := by
  have := depRows ns
  unfold dTab SeqAt.shaped; rw [PyData.canLay0, PyData.depth, layRows, Bool.true_and]; exact decide_eq_true (by omega)
theorem sh_tabL (ns : List (List Int)) : SeqAt.shaped (dTabL ns) = true := by
  have := depRowsL ns
  unfold dTabL SeqAt.shaped; rw [PyData.canLay0, PyData.depth, layRowsL, Bool.true_and]; exact decide_eq_true (by omega)
theorem eqvRows : ∀ ns ms : List (List Int), PyData.eqvAll (ns.map dRow) (ms.map dRow) = decide (ns = ms)
  | [], [] => by simp [PyData.eqvAll]
  | [], m :: ms => by simp [PyData.eqvAll]
  | n :: ns, [] => by simp [PyData.eqvAll]
  | n :: ns, m :: ms => by
    rw [List.map_cons, List.map_cons, PyData.eqvAll, eqvRows ns ms, eqv_row]
    simp
theorem eqvRowsL : ∀ ns ms : List (List Int), PyData.eqvAll (ns.map dRowL) (ms.map dRowL) = decide (ns = ms)
  | [], [] => by simp [PyData.eqvAll]
  | [], m :: ms => by simp [PyData.eqvAll]
  | n :: ns, [] => by simp [PyData.eqvAll]
  | n :: ns, m :: ms => by
    rw [List.map_cons, List.map_cons, PyData.eqvAll, eqvRowsL ns ms, eqv_rowL]
    simp
theorem eqv_tab (a b : List (List Int)) : PyData.eqv (dTab a) (dTab b) = decide (a = b) := by
  unfold dTab; rw [PyData.eqv, eqvRows]
theorem eqv_tabL (a b : List (List Int)) : PyData.eqv (dTabL a) (dTabL b) = decide (a = b) := by
  unfold dTabL; rw [PyData.eqv, eqvRowsL]
/-! ### tuples of many types -/
inductive CReps (K : Fg) (M : Hp) : List V → List Cl → Prop where
  | nil : CReps K M [] []
  | cons {c : Cl} {v : V} {vs : List V} {cs : List Cl} (h : c.t.rep K M v c.x) (r : CReps K M vs cs) : CReps K M (v :: vs) (c :: cs)
theorem cr_ext {K : Fg} {M M' : Hp} (e : Same M M') : ∀ {vs : List V} {cs : List Cl}, CReps K M vs cs → CReps K M' vs cs
  | _, _, .nil => .nil
  | _, _, .cons (c := c) h r => .cons (c.t.ext e h) (cr_ext e r)
def tTu {α : Type} (fs : α → List Cl) : Ty α := ⟨fun K M v x => ∃ a vs, v = .ref a ∧ SqT K M a vs ∧ CReps K M vs (fs x), fun e ⟨a, vs, h1, h2, h3⟩ => ⟨a, vs, h1, sqT_ext e h2, cr_ext e h3⟩⟩
theorem cr_of {K : Fg} {M : Hp} : ∀ {vs : List V} {cs : List Cl}, Reps K M vs (cs.map fun c => .vl c.t c.x) → CReps K M vs cs
  | _, [], h => by
    cases h; exact .nil
  | _, c :: cs, h => by
    cases h with
    | cons h r => exact .cons h (cr_of r)
theorem cr_len {K : Fg} {M : Hp} : ∀ {vs : List V} {cs : List Cl}, CReps K M vs cs → vs.length = cs.length
  | _, _, .nil => rfl
  | _, _, .cons _ r => by simp [cr_len r]
theorem cr_get {K : Fg} {M : Hp} : ∀ {vs : List V} {cs : List Cl} {i : Nat} {c : Cl}, CReps K M vs cs → cs[i]? = some c → ∃ v, vs[i]? = some v ∧ c.t.rep K M v c.x
  | _, _, _, _, .nil, e => by simp at e
  | _, _, 0, _, .cons h _, e => by simp at e; subst e; exact ⟨_, rfl, h⟩
  | _, _, i + 1, c, .cons _ r, e => by
    obtain ⟨v, q, h⟩ := cr_get (i := i) r (by simpa using e)
    exact ⟨v, by simpa using q, h⟩
section
variable {α β γ ι ρ : Type} {X : Cx} {G : List Sl} {a b c e : Expr} {es rest : List Expr} {s : Ty α} {t : Ty β} {u : Ty γ} {x : α} {y : β} {z : γ} {pos : Pos} {k : Nat}
theorem e_tu {fs : α → List Cl} {n : Nat} {ss : List Sl} (x : α) (h : EA X G es ss) (hs : ss = (fs x).map fun c => .vl c.t c.x := by rfl) (hl : (fs x).length ≤ 1000000 := by first | decide | (simp only [List.length_cons, List.length_nil]; omega) | exact Nat.le_of_ble_eq_true rfl) : E X G (.Tuple es n pos) (tTu fs) x := ⟨fun S Q k =>
  ⟨_, pe_tup pa_w, h.run S _ fun vs M1 H1 n1 r1 => by
    rw [hs] at r1
    have r2 := cr_of r1
    exact ⟨by rw [cr_len r2]; exact Nat.le_trans hl (by decide), fun p hp => k _ _ _ (n1.trans (Nx.new n1.sub hp)) ⟨p, vs, rfl, .inl (.inl upd_same), cr_ext (same_new (same_none n1.sub hp)) r2⟩⟩⟩⟩
theorem e_tuI {fs : α → List Cl} {i : Int} (y : β) (ha : E X G a (tTu fs) x) (hb : E X G b tI i) (h : (fs x)[i.toNat]? = some ⟨t, y⟩ := by rfl) (h0 : 0 ≤ i := by decide) (hs : PlainIx b := by exact fun _ _ => rfl) : E X G (.Subscript a b pos) t y := ⟨fun S Q k =>
  ⟨_, pe_ix ix_tup pe_w pe_w hs, ha.run S _ fun v M1 H1 n1 r1 => hb.run (S.next n1) _ fun w' M2 H2 n2 r2 => by
    obtain ⟨p, vs, e1, e2, e3⟩ := r1
    obtain ⟨v, q1, q2⟩ := cr_get e3 h
    have hl := (List.getElem?_eq_some_iff.mp q1).1
    refine ⟨p, _, i, v, e1, r2, sqT_ext (n2.vx.trans n2.sub) e2, ?_, k v M2 H2 (n1.trans n2) (t.ext n2.vx q2)⟩
    show (ixN vs.length i).bind (fun j => vs[j]?) = some v
    unfold ixN
    rw [if_pos h0, if_pos (by omega)]
    exact q1⟩⟩
/-! ### C(..), packed -/
structure Mkr (P : Program) (w : World) (K : Fg) (mg : Str → Option Value) (base : Heap) (k : Nat) (n : Str) (C : Addr) (ps : List Str) (sp : Sp) : Prop where
  ex : ∃ f fd, Mk K C f ∧ FnOk P w K mg base CX0 k f fd ps sp ∧ mg n = some (.ref C) ∧ Binds K fd ps []
theorem e_mk {P : Program} {w : World} {K : Fg} {mg : Str → Option Value} {base : Heap} {n : Str} {C : Addr} {ps : List Str} {ar : ι → List Sl} {pre : ι → Prop} {fs : ι → List (Str × Cl)} {p : Pos} (M : Mkr P w K mg base k n C ps (spI K C ar pre fs)) (hr : Room (k + 1) X.A) (i : ι) (ha : EA X G (e :: es) (ar i)) (hp : pre i)
    (hg : Gl X n := by rfl) (hdb : (n == ("__debug__" : Str)) = false := by decide) (he : starEach (e :: es) X.env = (false, eval e X.env) :: starEach es X.env := by rfl) (hpl : (backTo pos (starEach es X.env)).any (·.1) = false := by rfl)
    (xP : X.prog = P := by rfl) (xw : X.w = w := by rfl) (xK : X.K = K := by rfl) (xm : X.mg = mg := by rfl) (xb : X.base = base := by rfl) : E X G (.Call (.Name n p) (e :: es) [] pos) (tOb C fs) i := by
  obtain ⟨f, fd, h1, h2, h3, h4⟩ := M.ex
  exact e_make h1 h2 hr h3 h4 i ha hp hg hdb he hpl xP xw xK xm xb
end
end TL

namespace TL
open PySem PySem.Spec PyProof.Rows L2
/-! ### the end: what the top has left -/
section
variable {P : Program} {w : World} {K : Fg} {mg : Str → Option Value} {base h : Heap} {f D : Addr} {fd : FuncData} {x qual : Str} {st : Stmt}
theorem fn_in {k : Nat} {n : Str} {ps : List Str} {sp : Sp} (X : K.In h) (G : h.Ns mainGlobals mg) (a : PySem.W.nsIn K mainGlobals n = some (some (.ref f))) (F : Fun K x qual st f fd) (b : Binds K fd ps []) (ok : FnOk P w K mg base CX0 k f fd ps sp) : Fn P w K mg base CX0 k n ps sp :=
  ⟨f, fd, PySem.W.mg_of X G a, F.kp, b, ok⟩
/-- a def with one keyword-only parameter nm, default j -/
theorem funD_mk {nm : Str} {j : Int} {t : Tok} {oc : Value} {od an : Option Addr} {osl : Array (Option Value)} {doc pm cdv ct : Value} (l : K.lookup f = some ⟨oc, od, .func (PySem.W.fnOf x qual (defArgs st) (defBody st) (defScope st) .none (.ref D) doc pm an cdv ct), osl⟩)
    (c : PySem.W.codeIn K cdv qual = true) (k : PySem.W.keepIn K (.ref f) = true) (q : PySem.W.nsIn K D nm = some (some (.int j t))) : FunD K x qual (defArgs st) (defBody st) (defScope st) [] [(nm, .int j)] f (PySem.W.fnOf x qual (defArgs st) (defBody st) (defScope st) .none (.ref D) doc pm an cdv ct) :=
  ⟨⟨oc, od, .none, .ref D, doc, pm, an, cdv, ct, osl, rfl, l, c, .inl ⟨rfl, rfl⟩, .inr ⟨D, rfl, fun p hp => by
    rw [List.mem_singleton.mp hp]
    exact ⟨.int j t, q, t, rfl⟩⟩⟩, k⟩
theorem fnD_in {k n : Nat} {m nm : Str} {j : Int} {ps : List Str} {sp : Sp} (X : K.In h) (G : h.Ns mainGlobals mg) (a : PySem.W.nsIn K mainGlobals m = some (some (.ref f))) (F : FunD K x qual (defArgs st) (defBody st) (defScope st) [] [(nm, .int j)] f fd)
    (hn : n + 1 = ps.length)
    (h0 : ∀ (D : Addr) (doc pm : Value) (an : Option Addr) (cdv ct : Value) (us ks : List Value), us.length = n → ks.length = 1 → KwChain D ([nm].zip ks) (bindArgs (PySem.W.fnOf x qual (defArgs st) (defBody st) (defScope st) .none (.ref D) doc pm an cdv ct) ⟨us, []⟩) (ps.zip (us ++ ks)))
    (h1 : ∀ (kV doc pm : Value) (an : Option Addr) (cdv ct : Value) (us ws : List Value), us.length = n → ws.length = 1 → bindArgs (PySem.W.fnOf x qual (defArgs st) (defBody st) (defScope st) .none kV doc pm an cdv ct) ⟨us, [nm].zip ws⟩ = pure (ps.zip (us ++ ws)))
    (ok : FnOk P w K mg base CX0 k f fd ps sp) : FnD P w K mg base CX0 k m ps n [nm] [.int j] sp := by
  refine ⟨f, fd, PySem.W.mg_of X G a, F.kp, F.binds0 n (by simp) (by simpa using hn) h0, ⟨fun s us ws _ l1 l2 => ?_, fun r1 r2 => r1.append r2⟩, ok⟩
  obtain ⟨oc, od, dV, kV, doc, pm, an, cdv, ct, osl, rfl, lk, hcd, hD, hK⟩ := F.ex
  rcases hD with ⟨_, rfl⟩ | ⟨e, _⟩
  · exact .of_eq (h1 kV doc pm an cdv ct us ws l1 l2)
  · exact absurd rfl e
end
theorem pair_ints {K : Fg} {M : Hp} : ∀ ns : List Int, Paired (tI.rep K M) (ns.map V.int) ns
  | [] => .nil
  | n :: ns => .cons rfl (pair_ints ns)
theorem law_sp {K : Fg} {H : Hp} {a : Addr} {ns : List Int} (hl : ns.length ≤ 63) (hS : SqL K H a (ns.map V.int)) : spG K (fun i : List Int => [.vl (tSq tI) i]) (fun i => i.length ≤ 63) tB (fun _ => true) [.ref a] H (fun v _ => v = .bl true) (fun _ _ _ => False) :=
  ⟨ns, H, Same.refl H, .cons ⟨a, ns.map V.int, rfl, hS, pair_ints ns⟩ .nil, hl, fun v M' H' n r => r⟩
end TL

namespace TL
open PySem PySem.Spec PyProof.Rows L2
section
variable {X : Cx}
/-! ### x + y of an own class -/
def rAddOwn (C : Addr) (sp : Sp) (E : XK) : R2 := fun x y H Q => ∃ a dx vs b dy ws, x = .ref a ∧ y = .ref b ∧ H a = some (.ins C dx vs) ∧ H b = some (.ins C dy ws) ∧ sp [.ref a, .ref b] H Q E
theorem op_addOwn {CX : CXT} {k : Nat} {C f : Addr} {fd : FuncData} {ps : List Str} {sp : Sp} {E : XK} (hc : PySem.W.selfFirst X.K C = true) (hs : PySem.W.findIn X.K (.ref C) "__add__" = some (some (.ref f))) (hf : PySem.W.isFn X.K (.ref f) = true)
    (F : FnOk X.prog X.w X.K X.mg X.base CX k f fd ps sp) (hr : Room k X.A) (hb : Binds X.K fd ps []) (hx : Passes CX X E) : OpR X (binaryOp .Add) (rAddOwn C sp E) := by
  intro pins s σ H x y v u Q I rx ry h
  obtain ⟨a, dx, vs, b, dy, ws, rfl, rfl, ha, hb', q⟩ := h
  cases (show v = Value.ref a from rx)
  cases (show u = Value.ref b from ry)
  obtain ⟨mA, J, _⟩ := ins_get I.hok ha
  obtain ⟨mB, J', _⟩ := ins_get I.hok hb'
  obtain ⟨od, J, _⟩ := J.look
  obtain ⟨od', J', _⟩ := J'.look
  obtain ⟨m, hF⟩ := I.fr
  refine PySem.W.binop_K (op := .Add) hF I.ok.mod.kin J J'.type hc hs hf ?_
  refine wpAny_mono (run_fn (us := [.ref a, .ref b]) (vs := [.ref a, .ref b]) F hr hb .nil hx I (.cons rfl (.cons rfl .nil)) (by rw [List.append_nil]; exact q)) (fun w s' z => ?_) fun _ _ x => x
  obtain ⟨z', H', I', rz, qz⟩ := z
  exact SlX.cmpback rz ⟨z', H', I', rz, qz⟩
/-! ### is True, is False -/
theorem op_isB : OpR X (compareOp .Is) (fun x y H Q => ∃ a b, x = .bl a ∧ y = .bl b ∧ Q (.bl (a == b)) H) := by
  intro pins s σ H x y v u Q I rx ry h
  obtain ⟨a, b, rfl, rfl, q⟩ := h
  cases (show v = Value.bool a from rx)
  cases (show u = Value.bool b from ry)
  exact is_bool (fin_bl I q rfl)
end
section
variable {α β γ ι ρ : Type} {X : Cx} {G : List Sl} {a b c e : Expr} {es rest : List Expr} {s : Ty α} {t : Ty β} {u : Ty γ} {x : α} {y : β} {z : γ} {pos : Pos} {k : Nat} {R : Out}
theorem cv_isB {p q : Bool} : CmpV X .Is tB tB p q (p == q) := ⟨_, op_isB, fun M H v w Q m h1 h2 k => ⟨p, q, h1, h2, k M H (Nx.refl m)⟩⟩
/-- x in xs, of ints -/
theorem inV_ints (i : Int) : ∀ ns : List Int, inV (.int i) (ns.map V.int) = decide (i ∈ ns)
  | [] => rfl
  | n :: ns => by
    have ih := inV_ints i ns
    unfold inV at ih ⊢
    rw [List.map_cons, List.any_cons, ih]
    show ((n == i) || _) = _
    by_cases h : i = n
    · simp [h]
    · have h' : ¬ n = i := fun z => h z.symm
      simp [h, h']
theorem flat_ints : ∀ ns : List Int, (ns.map V.int).all flatV = true
  | [] => rfl
  | n :: ns => by rw [List.map_cons, List.all_cons, flat_ints ns]; rfl
theorem cv_inT {i : Int} {ns : List Int} : CmpV X .In tI (tTup tI) i ns (decide (i ∈ ns)) := ⟨_, op_in_seq, fun M H v w Q m h1 h2 k => by
  obtain ⟨p, vs, e1, e2, e3⟩ := h2
  have e4 := paired_int e3
  subst e4
  have h1' : v = .int i := h1
  subst h1'
  refine ⟨p, _, e1, .inr (sqT_ext m e2), rfl, flat_ints ns, ?_⟩
  rw [if_neg (by decide), inV_ints]; exact k M H (Nx.refl m)⟩
theorem cv_inL {i : Int} {ns : List Int} : CmpV X .In tI (tLst tI) i ns (decide (i ∈ ns)) := ⟨_, op_in_seq, fun M H v w Q m h1 h2 k => by
  obtain ⟨p, vs, e1, e2, e3⟩ := h2
  have e4 := paired_int e3
  subst e4
  have h1' : v = .int i := h1
  subst h1'
  refine ⟨p, _, e1, .inl (SqL.of (m _ _ e2)), rfl, flat_ints ns, ?_⟩
  rw [if_neg (by decide), inV_ints]; exact k M H (Nx.refl m)⟩
theorem cv_ninT {i : Int} {ns : List Int} : CmpV X .NotIn tI (tTup tI) i ns (!decide (i ∈ ns)) := ⟨_, op_notIn_seq, fun M H v w Q m h1 h2 k => by
  obtain ⟨p, vs, e1, e2, e3⟩ := h2
  have e4 := paired_int e3
  subst e4
  have h1' : v = .int i := h1
  subst h1'
  refine ⟨p, _, e1, .inr (sqT_ext m e2), rfl, flat_ints ns, ?_⟩
  rw [if_pos rfl, inV_ints]; exact k M H (Nx.refl m)⟩
theorem cv_ninL {i : Int} {ns : List Int} : CmpV X .NotIn tI (tLst tI) i ns (!decide (i ∈ ns)) := ⟨_, op_notIn_seq, fun M H v w Q m h1 h2 k => by
  obtain ⟨p, vs, e1, e2, e3⟩ := h2
  have e4 := paired_int e3
  subst e4
  have h1' : v = .int i := h1
  subst h1'
  refine ⟨p, _, e1, .inl (SqL.of (m _ _ e2)), rfl, flat_ints ns, ?_⟩
  rw [if_pos rfl, inV_ints]; exact k M H (Nx.refl m)⟩
/-- the truth of a list -/
theorem t_lst {xs : List α} (he : E X G a (tLst s) xs) (h : ∀ whole, isTrue a X.env whole = (do let v ← whole; standAt a.pos; holding [v] (truthy v)) := by intro _; rfl) : T X G a (!xs.isEmpty) := ⟨fun S Q k =>
  ⟨_, pt_truth pe_w h, he.run S _ fun v M1 H1 n1 r1 => by
    obtain ⟨p, vs, e1, e2, e3⟩ := r1
    subst e1
    refine ⟨!xs.isEmpty, .inl ⟨vs, SqL.of (n1.sub _ _ e2), ?_⟩, k M1 H1 n1⟩
    have := e3.length
    cases xs with
    | nil => rw [List.eq_nil_of_length_eq_zero this]; rfl
    | cons x xs =>
      cases vs with
      | nil => cases this
      | cons v vs => rfl⟩⟩
theorem t_tup {xs : List α} (he : E X G a (tTup s) xs) (h : ∀ whole, isTrue a X.env whole = (do let v ← whole; standAt a.pos; holding [v] (truthy v)) := by intro _; rfl) : T X G a (!xs.isEmpty) := ⟨fun S Q k =>
  ⟨_, pt_truth pe_w h, he.run S _ fun v M1 H1 n1 r1 => by
    obtain ⟨p, vs, e1, e2, e3⟩ := r1
    subst e1
    refine ⟨!xs.isEmpty, .inr (.inl ⟨vs, sqT_ext n1.sub e2, ?_⟩), k M1 H1 n1⟩
    have := e3.length
    cases xs with
    | nil => rw [List.eq_nil_of_length_eq_zero this]; rfl
    | cons x xs =>
      cases vs with
      | nil => cases this
      | cons v vs => rfl⟩⟩
/-- x = xs.pop() -/
theorem paired_last {α β : Type} {F : α → β → Prop} : ∀ {vs : List α} {xs : List β} {x : β}, Paired F vs (xs ++ [x]) → ∃ ws w, vs = ws ++ [w] ∧ Paired F ws xs ∧ F w x
  | _, [], x, h => by
    cases h with
    | cons h t => cases t; exact ⟨[], _, rfl, .nil, h⟩
  | _, y :: ys, x, h => by
    cases h with
    | cons h t =>
      obtain ⟨ws, w, rfl, p, q⟩ := paired_last (xs := ys) t
      exact ⟨_ :: ws, w, rfl, .cons h p, q⟩
theorem s_pop (k m : Nat) {n m' : Str} {p1 apos cpos pos' : Pos} {xs : List α} (hne : m ≠ k) (h0 : G[m]? = some (.ow s (xs ++ [x]))) (h : R.nx ((G.set m (.ow s xs)).set k (.vl s x))) (hN : X.N.Nodup) (hi : X.N[m]? = some n := by rfl) (hk : X.N[k]? = some m' := by rfl)
    (hv : Vis X.env.scope n := by first | exact Or.inl rfl | exact Or.inr (Or.inl rfl) | exact Or.inr (Or.inr rfl))
    (hd : (n == ("__debug__" : Str)) = false := by decide) (hcd : (n == ("__classdict__" : Str)) = false := by decide)
    (hbase : attributeBase (.Name n p1) "pop" X.env (eval (.Name n p1) X.env) = eval (.Name n p1) X.env := by rfl) (hline : (apos.endLine == cpos.line) = true := by rfl)
    (hx : Loc X.env.scope m' := by first | exact Or.inl rfl | exact Or.inr rfl) (hs : swapsWith (.Call (.Attribute (.Name n p1) "pop" apos) [] [] cpos) (some (.Name m' pos')) pos.line X.env = pure false := by rfl) (hf : X.fn m' = true ∨ X.env.scope.names.lookup m' = some .local := by first | exact .inl rfl | exact .inr rfl) :
    S1 X G (.Assign [.Name m' pos'] (.Call (.Attribute (.Name n p1) "pop" apos) [] [] cpos) pos) R := ⟨fun D E S tk f => by
  obtain ⟨a, vs, e0, hh, mp, pr, upd'⟩ := S.putOwn (ys := xs) h0
  obtain ⟨ws, w, rfl, pw, rw_⟩ := paired_last pr
  refine ⟨_, ps_set hN hk hx (pe_bm0 PySem.F.plainAttrs_list PySem.F.slot_list_pop PySem.F.type_list_pop mt_pop (pe_var hi hv hd hcd) hbase hline) hs hf, ?_⟩
  refine ⟨.ref a, e0, .inl ⟨rfl, _, SqL.of hh⟩, a, _, w, rfl, rfl, hh, ?_, ?_⟩
  · rw [List.length_append, List.length_singleton, Nat.add_sub_cancel, List.getElem?_append_right (Nat.le_refl _), Nat.sub_self]; rfl
  · rw [List.dropLast_concat]
    exact f.nx ((upd' ws pw).set (s := .vl s x) rw_) h⟩
/-- x + y of an own class, packed -/
structure AddC (P : Program) (w : World) (K : Fg) (mg : Str → Option Value) (base : Heap) (k : Nat) (C : Addr) (ps : List Str) (sp : Sp) : Prop where
  ex : ∃ f fd, PySem.W.selfFirst K C = true ∧ PySem.W.findIn K (.ref C) "__add__" = some (some (.ref f)) ∧ PySem.W.isFn K (.ref f) = true ∧ Binds K fd ps [] ∧ FnOk P w K mg base CX0 k f fd ps sp
theorem e_addOb {P : Program} {w : World} {K : Fg} {mg : Str → Option Value} {base : Heap} {C : Addr} {ps : List Str} {ar : ι → List Sl} {pre : ι → Prop} {tr : Ty ρ} {out : ι → ρ} {fs : α → List (Str × Cl)} {gs : β → List (Str × Cl)} (M : AddC P w K mg base k C ps (spG K ar pre tr out)) (hr : Room k X.A) (i : ι) (ha : E X G a (tOb C fs) x) (hb : E X G b (tOb C gs) y) (har : ar i = [.vl (tOb C fs) x, .vl (tOb C gs) y]) (hp : pre i)
    (xP : X.prog = P := by rfl) (xw : X.w = w := by rfl) (xK : X.K = K := by rfl) (xm : X.mg = mg := by rfl) (xb : X.base = base := by rfl) : E X G (.BinOp a .Add b pos) tr (out i) := by
  subst xP xw xK xm xb
  obtain ⟨f, fd, h1, h2, h3, h4, F⟩ := M.ex
  refine e_op2 (op_addOwn h1 h2 h3 F hr h4 (pass0 : Passes CX0 X (fun _ _ _ => False))) ha hb fun M H v w Q m r1 r2 k => ?_
  obtain ⟨p, dx, vs, e1, e2, e3⟩ := id r1
  obtain ⟨q, dy, ws, g1, g2, g3⟩ := id r2
  refine ⟨p, dx, vs, q, dy, ws, e1, g1, m _ _ e2, m _ _ g2, i, M, m, ?_, hp, fun u M' H' n r => k u M' H' n r⟩
  rw [har, ← e1, ← g1]
  exact .cons r1 (.cons r2 .nil)
/-- isinstance(x, C), x of the own class C -/
theorem e_isOwn {p : Pos} {C : Addr} {fs : α → List (Str × Cl)} (c : C8.InsC X.K C) (hm : X.mg "isinstance" = none) (ha : E X G a (tOb C fs) x) (hb : E X G b tC (.ref C)) (hg : Gl X "isinstance" := by rfl)
    (he : starEach [a, b] X.env = (false, eval a X.env) :: starEach [b] X.env := by rfl) (he2 : starEach [b] X.env = (false, eval b X.env) :: starEach [] X.env := by rfl) (hpl : (backTo pos (starEach [b] X.env)).any (·.1) = false := by rfl) : E X G (.Call (.Name "isinstance" p) [a, b] [] pos) tB true :=
  e_isi hm ha hb (fun M v r => by
    obtain ⟨q, dx, vs, e1, e2, e3⟩ := r
    subst e1
    exact ⟨.ref C, .ref C, .own C, fun H m => .base (.ins (m _ _ e2) c.cl c.ha c.hn c.htk c.hm), c.me⟩) hg he he2 hpl
end
end TL

namespace TL
open PySem PySem.Spec PyProof.Rows L2
/-! ### for i, x in enumerate(t), t a tuple -/
theorem meetsEn {v : Value} {o : Obj} {Ok : Heap → Prop} (B : Begins v o Ok) :
    Meets (Builtin.«enumerate.__new__» ⟨[.type "enumerate", v], []⟩) (fun _ R s => Ok s.heap ∧
      R (.ok (.ret (.ref (s.heap.push o).objs.size))) { s with heap := (s.heap.push o).push { cls := .type "enumerate", data := .fields #[.none, .bool false, .ref s.heap.objs.size, rawInt 0, .none, .none] } }) :=
  .of_wp fun prog w A R s h => by
    obtain ⟨hp, g, d, tk, os⟩ := s
    obtain ⟨hv, h⟩ := h
    have sb := sub_enumerate
    have pi : ∀ {A' : Around} {E' : Value → Shared → Prop} {Q' : Value → Shared → Prop}, Q' (.ref hp.objs.size) ⟨hp.push o, g, d, tk, os⟩ → wpAny (model prog w) A' (pyIter v) Q' E' ⟨hp, g, d, tk, os⟩ := fun q => B.iter prog w _ _ ⟨hp, g, d, tk, os⟩ _ hv q
    wp_walk using pi
    refine wpAny_stack_any fun st => wpAny_pure ?_
    split
    · rename_i cc _ _ _ _ _
      cases (cc == Value.type "enumerate") <;> (wp_walk using pi; exact ⟨_, rfl, h⟩)
    · wp_walk using pi
      exact ⟨_, rfl, h⟩
section
variable {prog : Program} {w : World} {A : Around} {E : Value → Shared → Prop} {s : Shared}
theorem callEnB {v : Value} {o : Obj} {Ok : Heap → Prop} {Q : Value → Shared → Prop} (B : Begins v o Ok) (hv : Ok s.heap)
    (h : ∀ h', IsEnum h' (s.heap.objs.size + 1) s.heap.objs.size 0 .none → h'.get? s.heap.objs.size = some o → (∀ b ob, s.heap.get? b = some ob → h'.get? b = some ob) → Q (.ref (s.heap.objs.size + 1)) { s with heap := h' }) :
    wpAny (model prog w) A (call (.type "enumerate") [v]) Q E s := by
  refine callType_new F.called_enumerate (by decide) (F.typeCall_enumerate_1 _) (F.newCall_enumerate_1 _) (fun ob => F.args_object_init_2 ob _) F.entry_enumerate_new (meetsEn B) ⟨hv, ?_⟩
  have z1 : (s.heap.push o).objs.size = s.heap.objs.size + 1 := Heap.size_push ..
  show _ ∧ _
  rw [z1]
  have en : IsEnum ((s.heap.push o).push { cls := .type "enumerate", data := .fields #[.none, .bool false, .ref s.heap.objs.size, rawInt 0, .none, .none] }) (s.heap.objs.size + 1) s.heap.objs.size 0 .none := by
    have q := Heap.get?_push_size (s.heap.push o) (o := { cls := .type "enumerate", data := .fields #[.none, .bool false, .ref s.heap.objs.size, rawInt 0, .none, .none] }) rfl
    rw [z1] at q
    exact q
  exact ⟨⟨_, en, rfl⟩, h _ en (Heap.get?_push_of_some _ (Heap.get?_push_size _ B.free)) fun b ob x => Heap.get?_push_of_some _ (Heap.get?_push_of_some _ x)⟩
end
/-- the tuple at a, each item in a new pair behind its number -/
def ItT (K : Fg) (a : Addr) : It :=
  ⟨fun i H => ∃ (xs : List V) (x : V), SqT K H a xs ∧ xs[i]? = some x, fun i H v H' => ∃ p x, v = .ref p ∧ H p = none ∧ H' = upd H p (.tup [.int (i : Nat), x]) ∧ ∀ xs, SqT K H a xs → xs[i]? = some x, fun i H => ∃ xs : List V, SqT K H a xs ∧ xs.length = i⟩
theorem turnT {P : Program} {w : World} {K : Fg} {elts : List Expr} {kk : Nat} {tpos : Pos} (a e it : Addr) (n1 : e ≠ it) (n2 : a ≠ it) (n3 : e ≠ a) :
    Turn P w K (.Tuple elts kk tpos) (ItT K a) [e, it] e (fun i h => (∃ old, IsEnum h e it ((i : Nat) : Int) old) ∧ h.IsTupleIter it a i) where
  mem := by simp
  obj := fun i h st b hb => by
    obtain ⟨⟨old, he⟩, o, ho, hc, hd⟩ := st
    rcases (show b = e ∨ b = it by simpa using hb) with z | z
    · rw [z]; exact ⟨_, he, fun v q => nomatch q⟩
    · rw [z]; exact ⟨o, ho, fun v q => by rw [hd] at q; cases q⟩
  keep := fun i h h' st k => ⟨let ⟨old, he⟩ := st.1; ⟨old, k e (by simp) _ he⟩, st.2.at fun o q => k it (by simp) o q⟩
  item := by
    intro X hP hw hK hc i pins s σ H E I hf st hg
    subst hP hw hK
    obtain ⟨⟨old, he⟩, hit⟩ := st
    obtain ⟨xs, x, hq, hx⟩ := hg
    obtain ⟨its, rv, p, hz⟩ := I.tuple hq
    obtain ⟨u, hu, ru⟩ := rv.get hx
    have hel : e < s.heap.objs.size := Heap.lt_size he
    have hil : it < s.heap.objs.size := by obtain ⟨_, q, _⟩ := hit; exact Heap.lt_size q
    have D := Draws.tuple (prog := X.prog) (w := X.w) (A := X.A.in1) (I.ok.hd hc) it a n2 its.toArray
    refine wpAny_pyNext_enum_itemD D he ⟨hit, p⟩ (by simpa using (List.getElem?_eq_some_iff.mp hu).1) n1 (by simp [n1, n3]) fun y h' tk hy ho hst hT hsz hk => ?_
    have hyu : y = u := by
      have q : its.toArray[i]? = some u := by simpa using hu
      rw [q] at hy
      exact (Option.some.inj hy).symm
    subst hyu
    refine ⟨_, rfl, wpAny_letOwnedTupleGo_enum (s := { s with heap := h', toks := tk + 1 }) ho fun h'' he' sb => ?_⟩
    have hT2 : h''.get? s.heap.objs.size = some { cls := .type "tuple", data := .seq #[.int i tk, y] } := (sb.2 _ (Nat.ne_of_gt hel)).trans hT
    have fresh : ObjOk X.prog X.w (upd H s.heap.objs.size (.tup [.int (i : Nat), x])) h'' s.heap.objs.size (.tup [.int (i : Nat), x]) :=
      ⟨by show 2 ≤ sizeLine; decide, [.int i tk, y], .cons ⟨_, rfl⟩ (.cons ru .nil), ⟨_, hT2, rfl, _, rfl⟩⟩
    have I1 : Inv X pins σ (upd H s.heap.objs.size (.tup [.int (i : Nat), x])) { s with heap := h'', toks := tk + 1 } :=
      I.turnedNew (ch := [e, it]) (fun b ob hb q => (sb.2 b (fun z => hb (by simp [z]))).trans (hk b ob (fun z => hb (by simp [z])) (fun z => hb (by simp [z])) q)) hf (Nat.le_refl _) fresh
    refine ⟨.ref s.heap.objs.size, _, I1, rfl, ⟨_, x, rfl, I.hok.fresh (Nat.le_refl _), rfl, fun ys hy => by rw [I.tuple_inj hy hq]; exact hx⟩, ⟨⟨y, ?_⟩, hst.1.at fun o q => (sb.2 it (Ne.symm n1)).trans q⟩, fun b hb => ?_⟩
    · rw [show ((i + 1 : Nat) : Int) = (i : Int) + 1 by omega]; exact he'
    · have hb' : b < s.heap.objs.size := by
        rcases (show b = e ∨ b = it by simpa using hb) with z | z
        · rw [z]; exact hel
        · rw [z]; exact hil
      rw [upd_ne (Nat.ne_of_lt hb')]
      exact (hf b hb).1
  done := by
    intro X hP hw hK hc i pins s σ H E I hf st hg
    subst hP hw hK
    obtain ⟨⟨old, he⟩, hit⟩ := st
    obtain ⟨xs, hq, hx⟩ := hg
    obtain ⟨its, rv, p, hz⟩ := I.tuple hq
    obtain ⟨f0, f1, f2, f3, f4, f5⟩ := hf it (by simp)
    have hl : its.toArray.size = i := by have := rv.length; simp; omega
    have D := Draws.tuple (prog := X.prog) (w := X.w) (A := X.A.in1) (I.ok.hd hc) it a n2 its.toArray
    exact wpAny_pyNext_enum_endD D he (by rw [hl]; exact ⟨hit, p⟩) fun h' eb => ⟨rfl, I.turned (t' := s.toks) (fun b o hb q => eb b o hb q) f0 f1 f3 f4 f5⟩
  self := fun A i s Q E st h => let ⟨⟨_, he⟩, _⟩ := st; wpAny_pyIter_enum he h
def iEnT (K : Fg) (ta : TA) : TI := fun σ H R => ta σ H fun vs H1 => ∃ a xs, vs = [.ref a] ∧ SqT K H1 a xs ∧ R (ItT K a) H1
theorem pi_enT {X : Cx} {e : Expr} {ta : TA} {p pos tpos : Pos} {elts : List Expr} {kk : Nat} (hg : Gl X "enumerate") (hm : X.mg "enumerate" = none) (ha : PA X [e] ta) (hs : starEach [e] X.env = [(false, eval e X.env)] := by rfl) :
    PI X (.Tuple elts kk tpos) (.Call (.Name "enumerate" p) [e] [] pos) (iEnT X.K ta) := by
  refine ⟨fun pins s σ H R I h => ?_⟩
  refine Call_ (ld_blt I hg hm boot_enumerate (PyProof.Rows.callWith_type1 (thn (ha.run pos pins s σ H _ I h) fun us s1 ⟨vs, H1, I1, r1, a, xs, ex, hq, q⟩ => ?_) hs rfl))
  subst ex
  obtain ⟨u, rfl, ru⟩ := r1.one
  cases (show u = Value.ref a from ru)
  obtain ⟨its, rv, p', hz⟩ := I1.tuple hq
  have la : a < s1.heap.objs.size := p'.lt
  refine callEnB (begins_tuple a its.toArray) p' fun h' he hit hk => wpAny_pyIter_enum he ?_
  have I2 : Inv X pins σ H1 { s1 with heap := h' } := I1.kept (t' := s1.toks) hk
  refine ⟨s1.heap.objs.size + 1, [s1.heap.objs.size + 1, s1.heap.objs.size], _, _, H1, rfl, I2, turnT a (s1.heap.objs.size + 1) s1.heap.objs.size (Nat.succ_ne_self _) (Nat.ne_of_lt la) (Nat.ne_of_gt (Nat.lt_succ_of_lt la)), ⟨⟨.none, he⟩, _, hit, rfl, rfl⟩, fun b hb => ?_, q⟩
  have hle : s1.heap.objs.size ≤ b := by
    rcases (show b = s1.heap.objs.size + 1 ∨ b = s1.heap.objs.size by simpa using hb) with z | z
    · rw [z]; exact Nat.le_succ _
    · rw [z]; exact Nat.le_refl _
  exact I1.fpOk hle (I1.hok.fresh hle)
theorem walkT {K : Fg} {a : Addr} {xs : List V} : L2.Walk (ItT K a) xs.length (fun H => SqT K H a xs) (L2.YPair (fun i => some (.int (i : Nat))) (fun i => xs[i]?)) where
  goes := fun i H hi h => ⟨xs, xs[i], h, by simp [hi]⟩
  stops := fun H h => ⟨xs, h, rfl⟩
  yields := fun i H v H' hi h y => by
    obtain ⟨p, x, e1, e2, e3, e4⟩ := y
    exact ⟨p, .int (i : Nat), x, e1, e2, e3, rfl, e4 xs h⟩
section
variable {α β : Type} {X : Cx} {G : List Sl} {a e : Expr} {s : Ty α} {t : Ty β} {pos : Pos} {R : Out} {body : List Stmt}
/-- for i, x in enumerate(t) -/
theorem s_forEn (m1 m2 : Nat) {n1 n2 : Str} {q1 q2 q3 p1 p2 : Pos} {kt : Nat} {xs : List α} (I : Nat → List Sl → Prop) (G0 : List Sl) (hm : X.mg "enumerate" = none) (he : E X G a (tTup s) xs) (w0 : Sub G G0) (h0 : I 0 G0)
    (hs : ∀ m x G', xs[m]? = some x → I m G' → B X ((G'.set m1 (.vl tI (m : Int))).set m2 (.vl s x)) body ⟨I (m + 1), R.rt, R.nx, I (m + 1), R.xc⟩) (hd : ∀ G', I xs.length G' → R.nx G')
    (hN : X.N.Nodup) (hcm : X.calm = true) (hi1 : X.N[m1]? = some n1 := by rfl) (hi2 : X.N[m2]? = some n2 := by rfl)
    (hx1 : Loc X.env.scope n1 := by first | exact Or.inl rfl | exact Or.inr rfl) (hx2 : Loc X.env.scope n2 := by first | exact Or.inl rfl | exact Or.inr rfl) (hf1 : X.fn n1 = true ∨ X.env.scope.names.lookup n1 = some .local := by first | exact .inl rfl | exact .inr rfl) (hf2 : X.fn n2 = true ∨ X.env.scope.names.lookup n2 = some .local := by first | exact .inl rfl | exact .inr rfl)
    (hs1 : (assignEach [.Name n1 q1, .Name n2 q2] X.env).map (·.2) = assign (.Name n1 q1) X.env :: (assignEach [.Name n2 q2] X.env).map (·.2) := by rfl) (hs2 : (assignEach [.Name n2 q2] X.env).map (·.2) = assign (.Name n2 q2) X.env :: (assignEach [] X.env).map (·.2) := by rfl)
    (hn : (assignEach [.Name n1 q1, .Name n2 q2] X.env).length = 2 := by rfl) (hst : (assignEach [.Name n1 q1, .Name n2 q2] X.env).findIdx? (·.1) = none := by rfl)
    (hp : PassesOwn (model X.prog X.w) X.A X.env X.xe := by first | exact PassesOwn.never | assumption) (hg : Gl X "enumerate" := by rfl) (hse : starEach [a] X.env = [(false, eval a X.env)] := by rfl)
    (hfs : ∀ x, foldedSetIterable (.Call (.Name "enumerate" p1) [a] [] p2) X.env x = pure x := by intro _; rfl) : S1 X G (.For (.Tuple [.Name n1 q1, .Name n2 q2] kt q3) (.Call (.Name "enumerate" p1) [a] [] p2) body [] pos) R := ⟨fun {M0 H0 M H σ} D E S tk f =>
  ⟨_, ps_for hp hcm (pi_enT hg hm (pa_cons pe_w pa_nil hse) hse) (pg_tup hcm (pgs_cons (pg_name hN hi1 hx1 hf1) (pgs_cons (pg_name hN hi2 hx2 hf2) pgs_nil hs2) hs1) hn hst) pss_w hfs, he.run S _ fun v M1 H1 n1 r1 => by
    obtain ⟨p, vs, e1, e2, e3⟩ := r1
    subst e1
    have n0 := S.nx.trans n1
    refine ⟨p, vs, rfl, sqT_ext n1.sub e2, for_it (walkT (K := X.K) (a := p) (xs := vs)) (fun m σ' H' => ∃ M' G', St X.K M1 H0 M' H' σ' G' ∧ I m G') ⟨M1, G0, ((S.next n1).weak w0).rebase, h0⟩ (fun m σ' H' _ ⟨M', G', S', _⟩ => sqT_ext (S'.nx.vx.trans S'.sub) e2) ?_ ?_⟩
    · rintro m w σ' H' H2 hm ⟨M', G', S', hI⟩ ⟨p', x1, x2, g1, g2, g3, g4, g5⟩
      obtain ⟨x', k1, k2⟩ := paired_get' e3 g5
      cases (Option.some.inj g4)
      subst g1 g3
      have nn : Nx M' H' (upd M' p' (.tup [.int (m : Nat), x2])) (upd H' p' (.tup [.int (m : Nat), x2])) := Nx.new S'.sub g2
      have S2 := S'.next nn
      refine ⟨p', [.int (m : Nat), x2], rfl, .inl (.inl upd_same), rfl, _, _, rfl, _, _, rfl, rfl, (hs m x' G' k1 hI).run _ E ((S2.set (s := .vl tI (m : Int)) (v := .int (m : Nat)) rfl).set (s := .vl s x') (v := x2) (s.ext (S'.nx.vx.trans nn.vx) k2)) tk
        ⟨fun S2 h2 => ⟨_, _, S2, h2⟩, fun n2 h2 => f.rt (n0.unbase n2) h2, fun S2 h2 => f.nx (S2.unbase n0) h2, fun S2 h2 => ⟨_, _, S2, h2⟩, fun S2 h2 => f.xc (S2.unbase n0) h2⟩⟩
    · rintro σ' H' ⟨M', G', S', hI⟩
      rw [e3.length] at hI
      exact f.nx (S'.unbase n0) (hd G' hI)⟩⟩
end
end TL

namespace TL
open PySem PySem.Spec PyProof.Rows L2
/-! ### promises that tell only what is true of the answer -/
def spE {ι ρ : Type} (K : Fg) (ar : ι → List Sl) (pre : ι → Prop) (t : Ty ρ) (post : ι → ρ → Prop) : Sp := fun vs H Q _ =>
  ∃ (i : ι) (M : Hp), Same M H ∧ Reps K M vs (ar i) ∧ pre i ∧ ∀ y, post i y → ∀ v M' H', Nx M H M' H' → t.rep K M' v y → Q v H'
def RetE {ρ : Type} (K : Fg) (t : Ty ρ) (P : ρ → Prop) : Out := { nx := fun _ => False, rt := fun M v => ∃ y, P y ∧ t.rep K M v y }
section
variable {P : Program} {w : World} {K : Fg} {mg : Str → Option Value} {base : Heap} {ι ρ : Type}
theorem fn_okE {x qual : Str} {st : Stmt} {f : Addr} {fd : FuncData} {N ps : List Str} {k : Nat} {ar : ι → List Sl} {pre : ι → Prop} {t : Ty ρ} {post : ι → ρ → Prop} (F : Fun K x qual st f fd) (S : FnScope N ps (defScope st)) (n : Nat)
    (hn : N.length = ps.length + n) (hl : ∀ i, (ar i).length = ps.length)
    (hb : ∀ (cdv : Value) (A : Around) (outer : List Env) (s : Shared) (H : Hp) (E : XK), Room k (A.deeper (envOfC qual (defScope st) s.heap.objs.size f cdv)) → ∀ i, pre i →
      B (cxOf CX0 P w K mg base N qual (defScope st) f cdv A outer s H E).nox (ar i ++ List.replicate n .un) (defBody st) (RetE K t (post i))) : FnOk P w K mg base CX0 (k + 1) f fd ps (spE K ar pre t post) := by
  refine F.ok S (fun vs H Q E h => ?_) (fun cdv A outer s H vs Q E hr h => ⟨_, pss_w, ?_⟩)
  · obtain ⟨i, M, _, r, _⟩ := h
    rw [reps_len r, hl]
  · obtain ⟨i, M, m, r, hp, q⟩ := h
    refine (hb cdv A outer s H E hr i hp).run _ (fun _ _ _ _ => False) (st_start m r (by rw [hl]; exact hn)) takes_false ⟨fun S' h => h.elim, fun n2 ⟨y, hy, h⟩ => q y hy _ _ _ n2 h, fun _ h => h.elim, fun _ h => h.elim, fun _ h => h.elim⟩
end
section
variable {α β γ ι ρ : Type} {X : Cx} {G : List Sl} {a b c e : Expr} {es rest : List Expr} {s : Ty α} {t : Ty β} {u : Ty γ} {x : α} {y : β} {z : γ} {pos : Pos} {k : Nat} {R : Out}
/-- an expression of which only this is known -/
structure EX (X : Cx) (G : List Sl) (e : Expr) (t : Ty α) (P : α → Prop) : Prop where
  run : ∀ {M0 H0 M H : Hp} {σ : L2.St}, St X.K M0 H0 M H σ G → ∀ (Q : VK), (∀ y, P y → ∀ v M' H', Nx M H M' H' → t.rep X.K M' v y → Q v H') → wE X e σ H Q
structure EAX (X : Cx) (G : List Sl) (es : List Expr) (P : List Sl → Prop) : Prop where
  run : ∀ {M0 H0 M H : Hp} {σ : L2.St}, St X.K M0 H0 M H σ G → ∀ (Q : List V → Hp → Prop), (∀ ss, P ss → ∀ vs M' H', Nx M H M' H' → Reps X.K M' vs ss → Q vs H') → wA X es σ H Q
theorem E.toX {P : α → Prop} (h : E X G e s x) (p : P x) : EX X G e s P := ⟨fun S Q k => h.run S Q fun v M' H' n r => k x p v M' H' n r⟩
theorem EX.weak {P Q : α → Prop} (h : EX X G e s P) (q : ∀ y, P y → Q y) : EX X G e s Q := ⟨fun S R k => h.run S R fun y p => k y (q y p)⟩
theorem eax_nil : EAX X G [] (fun ss => ss = []) := ⟨fun {M0 H0 M H σ} S Q k => ⟨_, pa_nil, k [] rfl [] M H (Nx.refl S.sub) .nil⟩⟩
theorem eax_cons {P : α → Prop} {P' : List Sl → Prop} (h : EX X G e s P) (hr : EAX X G es P') (hs : starEach (e :: es) X.env = (false, eval e X.env) :: starEach es X.env := by rfl) : EAX X G (e :: es) (fun ss => ∃ y r, P y ∧ P' r ∧ ss = .vl s y :: r) := ⟨fun S Q k =>
  ⟨_, pa_cons pe_w pa_w hs, h.run S _ fun y py v M1 H1 n1 r1 => hr.run (S.next n1) _ fun ss ps vs M2 H2 n2 r2 => k _ ⟨y, ss, py, ps, rfl⟩ _ M2 H2 (n1.trans n2) (.cons (s.ext n2.vx r1) r2)⟩⟩
/-- a value first, the rest exact -/
theorem EA.toX {ss : List Sl} (h : EA X G es ss) : EAX X G es (fun r => r = ss) := ⟨fun S Q k => h.run S Q fun vs M' H' n r => k ss rfl vs M' H' n r⟩
theorem ex_call {P : Program} {w : World} {K : Fg} {mg : Str → Option Value} {base : Heap} {n : Str} {ps : List Str} {ar : ι → List Sl} {pre : ι → Prop} {tr : Ty ρ} {post : ι → ρ → Prop} {PA : List Sl → Prop} {PR : ρ → Prop} {p : Pos} (C : Fn P w K mg base CX0 k n ps (spE K ar pre tr post)) (hr : Room k X.A) (ha : EAX X G (e :: es) PA) (hp : ∀ ss, PA ss → ∃ i, ar i = ss ∧ pre i ∧ ∀ y, post i y → PR y)
    (hg : Gl X n := by rfl) (hdb : (n == ("__debug__" : Str)) = false := by decide) (he : starEach (e :: es) X.env = (false, eval e X.env) :: starEach es X.env := by rfl) (hpl : (backTo pos (starEach es X.env)).any (·.1) = false := by rfl)
    (xP : X.prog = P := by rfl) (xw : X.w = w := by rfl) (xK : X.K = K := by rfl) (xm : X.mg = mg := by rfl) (xb : X.base = base := by rfl) : EX X G (.Call (.Name n p) (e :: es) [] pos) tr PR := ⟨fun S Q q => by
  subst xP xw xK xm xb
  obtain ⟨f, fd, hm, hk, hb, F⟩ := C.ex
  refine ⟨_, pe_call F hr hg hm hk hb .nil pass0 pa_w hdb he hpl, ha.run S _ fun ss pss vs M1 H1 n1 r1 => ?_⟩
  rw [List.append_nil]
  obtain ⟨i, e1, e2, e3⟩ := hp ss pss
  exact ⟨i, M1, n1.sub, by rw [e1]; exact r1, e2, fun y py v M2 H2 n2 r2 => q y (e3 y py) v M2 H2 (n1.trans n2) r2⟩⟩
/-- the same, of a def whose answer is known, at arguments of which less is known -/
theorem ex_callG {P : Program} {w : World} {K : Fg} {mg : Str → Option Value} {base : Heap} {n : Str} {ps : List Str} {ar : ι → List Sl} {pre : ι → Prop} {tr : Ty ρ} {out : ι → ρ} {PA : List Sl → Prop} {PR : ρ → Prop} {p : Pos} (C : Fn P w K mg base CX0 k n ps (spG K ar pre tr out)) (hr : Room k X.A) (ha : EAX X G (e :: es) PA) (hp : ∀ ss, PA ss → ∃ i, ar i = ss ∧ pre i ∧ PR (out i))
    (hg : Gl X n := by rfl) (hdb : (n == ("__debug__" : Str)) = false := by decide) (he : starEach (e :: es) X.env = (false, eval e X.env) :: starEach es X.env := by rfl) (hpl : (backTo pos (starEach es X.env)).any (·.1) = false := by rfl)
    (xP : X.prog = P := by rfl) (xw : X.w = w := by rfl) (xK : X.K = K := by rfl) (xm : X.mg = mg := by rfl) (xb : X.base = base := by rfl) : EX X G (.Call (.Name n p) (e :: es) [] pos) tr PR := ⟨fun S Q q => by
  subst xP xw xK xm xb
  obtain ⟨f, fd, hm, hk, hb, F⟩ := C.ex
  refine ⟨_, pe_call F hr hg hm hk hb .nil pass0 pa_w hdb he hpl, ha.run S _ fun ss pss vs M1 H1 n1 r1 => ?_⟩
  rw [List.append_nil]
  obtain ⟨i, e1, e2, e3⟩ := hp ss pss
  exact ⟨i, M1, n1.sub, by rw [e1]; exact r1, e2, fun v M2 H2 n2 r2 => q (out i) e3 v M2 H2 (n1.trans n2) r2⟩⟩
theorem s_setX (k : Nat) {n : Str} {pos' : Pos} {P : α → Prop} (he : EX X G e s P) (h : ∀ x, P x → R.nx (G.set k (.vl s x))) (hN : X.N.Nodup) (hi : X.N[k]? = some n := by rfl) (hx : Loc X.env.scope n := by first | exact Or.inl rfl | exact Or.inr rfl)
    (hs : swapsWith e (some (.Name n pos')) pos.line X.env = pure false := by rfl) (hf : X.fn n = true ∨ X.env.scope.names.lookup n = some .local := by first | exact .inl rfl | exact .inr rfl) : S1 X G (.Assign [.Name n pos'] e pos) R := ⟨fun D E S tk f =>
  ⟨_, ps_set hN hi hx pe_w hs hf, he.run S _ fun y py v M1 H1 n1 r1 => f.nx ((S.next n1).set (s := .vl s y) r1) (h y py)⟩⟩
theorem s_retX {P : α → Prop} (he : EX X G e s P) (h : ∀ y, P y → ∀ M v, s.rep X.K M v y → R.rt M v) : S1 X G (.Return (some e) pos) R := ⟨fun D E S tk f =>
  ⟨_, ps_ret pe_w, he.run S _ fun y py v M1 H1 n1 r1 => f.rt (S.nx.trans n1) (h y py M1 v r1)⟩⟩
end
end TL

namespace TL
open PySem PySem.Spec PyProof.Rows L2
/-! ### a comprehension within a comprehension -/
theorem look_rel {env : Env} {x : Str} : ∀ {ns : List (Str × NameKind)}, (ns.lookup x = some .cell ∨ ns.lookup x = some .free) →
    ((ns.map fun (n, k) => if (k == NameKind.free && env.scope.kind == .function && env.kindOf n == some .cell) then (n, NameKind.cell) else (n, k)).lookup x = some .cell ∨ (ns.map fun (n, k) => if (k == NameKind.free && env.scope.kind == .function && env.kindOf n == some .cell) then (n, NameKind.cell) else (n, k)).lookup x = some .free)
  | [], h => by simp at h
  | (n, k) :: r, h => by
    rw [List.map_cons]
    dsimp only
    cases hx : x == n with
    | true =>
      simp only [List.lookup_cons, hx] at h
      by_cases hc : (k == NameKind.free && env.scope.kind == .function && env.kindOf n == some .cell) = true
      · rw [if_pos hc]; simp only [List.lookup_cons, hx]; first | exact .inl trivial | exact .inl rfl
      · rw [if_neg hc]; simp only [List.lookup_cons, hx]; exact h
    | false =>
      simp only [List.lookup_cons, hx] at h
      have ih := look_rel (env := env) h
      by_cases hc : (k == NameKind.free && env.scope.kind == .function && env.kindOf n == some .cell) = true
      · rw [if_pos hc]; simp only [List.lookup_cons, hx]; exact ih
      · rw [if_neg hc]; simp only [List.lookup_cons, hx]; exact ih
theorem blkIn {N : List Str} {outer scope : Scope} {own : List (Str × Nat)} {env : Env} {cl : List (Str × Addr)} {C : Addr} (h : blkC N outer scope own = true) : BlkOk N (compEnvC outer cl C env).scope scope own := by
  have b := blkOk_by h
  exact ⟨b.kind, b.uniq, b.ix, fun y hy e => look_rel (b.free y hy e), b.own⟩
end TL

namespace TL
open PySem PySem.Spec PyProof.Rows L2
/-! ### defs that return a new list, which the caller may change -/
def spN {ι α : Type} (K : Fg) (ar : ι → List Sl) (pre : ι → Prop) (t : Ty α) (post : ι → List α → Prop) : Sp := fun vs H Q _ =>
  ∃ (i : ι) (M : Hp), Same M H ∧ Reps K M vs (ar i) ∧ pre i ∧ ∀ y, post i y → ∀ p M' H' us, Nx M H M' H' → H p = none → M' p = none → H' p = some (.lst us) → Paired (t.rep K M') us y → Q (.ref p) H'
structure BN {α : Type} (X : Cx) (G : List Sl) (sts : List Stmt) (t : Ty α) (P : List α → Prop) : Prop where
  run : ∀ {M0 H0 M H : Hp} {σ : L2.St} (D : Ends) (E : WX), St X.K M0 H0 M H σ G → L2N.Takes X E → (∀ y, P y → ∀ p M' H' us, Nx M0 H0 M' H' → H0 p = none → M' p = none → H' p = some (.lst us) → Paired (t.rep X.K M') us y → D.rt (.ref p) H') → wS X sts D σ H
structure ELX {α : Type} (X : Cx) (G : List Sl) (e : Expr) (t : Ty α) (P : List α → Prop) : Prop where
  run : ∀ {M0 H0 M H : Hp} {σ : L2.St}, St X.K M0 H0 M H σ G → ∀ (Q : VK), (∀ y, P y → ∀ p M' H' us, Nx M H M' H' → H p = none → M' p = none → H' p = some (.lst us) → Paired (t.rep X.K M') us y → Q (.ref p) H') → wE X e σ H Q
section
variable {α β ι : Type} {X : Cx} {G : List Sl} {a b e : Expr} {es : List Expr} {st : Stmt} {rest : List Stmt} {t : Ty α} {s : Ty β} {P : List α → Prop} {xs : List α} {pos : Pos} {k : Nat} {R : Out}
theorem EL.toX (h : EL X G e t xs) (p : P xs) : ELX X G e t P := ⟨fun S Q k => h.run S Q fun q M' H' us n h1 h2 h3 h4 => k xs p q M' H' us n h1 h2 h3 h4⟩
theorem ELX.toE (h : ELX X G e t P) : EX X G e (tLst t) P := ⟨fun S Q k => h.run S Q fun y py p M' H' us n hp mp hh r =>
  k y py (.ref p) (upd M' p (.lst us)) H' ⟨n.ex, n.vx.trans (same_new mp), fun b o q => by
    by_cases z : b = p
    · subst z; rw [upd_same] at q; cases q; exact hh
    · rw [upd_ne z] at q; exact n.sub b o q, fun b n1 n2 => by
    rw [upd_ne (fun z => n2 (by rw [z]; exact hp))]; exact n.fr b n1 n2⟩ ⟨p, us, rfl, upd_same, paired_imp (fun _ _ q => t.ext (same_new mp) q) r⟩⟩
theorem bn_cons (h : S1 X G st { nx := fun G' => BN X G' rest t P, rt := fun _ _ => False }) : BN X G (st :: rest) t P := ⟨fun D E S tk f =>
  ⟨_, pss_cons ps_w pss_w, h.run { D with nx := wS X rest D } (fun _ _ _ _ => False) S takes_false ⟨fun S' hb => hb.run D E S' tk f, fun _ h => h.elim, fun _ h => h.elim, fun _ h => h.elim, fun _ h => h.elim⟩⟩⟩
theorem bn_cut (N : List Sl → Prop) (h : S1 X G st { nx := N, rt := fun _ _ => False }) (k : ∀ G', N G' → BN X G' rest t P) : BN X G (st :: rest) t P :=
  bn_cons ⟨fun D E S tk f => h.run D E S tk ⟨fun S' hn => f.nx S' (k _ hn), f.rt, f.bk, f.ct, f.xc⟩⟩
theorem bn_ret (h : ELX X G e t P) : BN X G [.Return (some e) pos] t P := ⟨fun {M0 H0 M H σ} D E S tk f =>
  ⟨_, pss_one (ps_ret pe_w), h.run S _ fun y py p M' H' us n h1 h2 h3 h4 => f y py p M' H' us (S.nx.trans n) (S.nx.ex.free h1) h2 h3 h4⟩⟩
theorem bn_retOwn (k : Nat) {n : Str} {p1 : Pos} (h0 : G[k]? = some (.ow t xs)) (h : P xs) (hi : X.N[k]? = some n := by rfl)
    (hv : Vis X.env.scope n := by first | exact Or.inl rfl | exact Or.inr (Or.inl rfl) | exact Or.inr (Or.inr rfl))
    (hd : (n == ("__debug__" : Str)) = false := by decide) (hcd : (n == ("__classdict__" : Str)) = false := by decide) : BN X G [.Return (some (.Name n p1)) pos] t P := ⟨fun {M0 H0 M H σ} D E S tk f => by
  obtain ⟨A, q1, _⟩ := S.sl
  obtain ⟨o, q, a, _, e, f0, hm, vs, hh, pr⟩ := q1 k _ h0
  subst e
  exact ⟨_, pss_one (ps_ret (pe_var hi hv hd hcd)), .ref a, q, f xs h a M H vs S.nx f0 hm hh pr⟩⟩
theorem bn_freeze (k : Nat) {s : Ty β} {xs : List β} (h : G[k]? = some (.ow s xs)) (hb : BN X (G.set k (.vl (tLst s) xs)) rest t P) : BN X G rest t P := ⟨fun D E S tk f => by
  obtain ⟨a, vs, _, _, _, S'⟩ := S.freeze h
  exact hb.run D E S' tk f⟩
theorem elx_call {P0 : Program} {w : World} {K : Fg} {mg : Str → Option Value} {base : Heap} {n : Str} {ps : List Str} {ar : ι → List Sl} {pre : ι → Prop} {post : ι → List α → Prop} {PA : List Sl → Prop} {p : Pos} (C : Fn P0 w K mg base CX0 k n ps (spN K ar pre t post)) (hr : Room k X.A) (ha : EAX X G (e :: es) PA) (hp : ∀ ss, PA ss → ∃ i, ar i = ss ∧ pre i ∧ ∀ y, post i y → P y)
    (hg : Gl X n := by rfl) (hdb : (n == ("__debug__" : Str)) = false := by decide) (he : starEach (e :: es) X.env = (false, eval e X.env) :: starEach es X.env := by rfl) (hpl : (backTo pos (starEach es X.env)).any (·.1) = false := by rfl)
    (xP : X.prog = P0 := by rfl) (xw : X.w = w := by rfl) (xK : X.K = K := by rfl) (xm : X.mg = mg := by rfl) (xb : X.base = base := by rfl) : ELX X G (.Call (.Name n p) (e :: es) [] pos) t P := ⟨fun S Q q => by
  subst xP xw xK xm xb
  obtain ⟨f, fd, hm, hk, hb, F⟩ := C.ex
  refine ⟨_, pe_call F hr hg hm hk hb .nil pass0 pa_w hdb he hpl, ha.run S _ fun ss pss vs M1 H1 n1 r1 => ?_⟩
  rw [List.append_nil]
  obtain ⟨i, e1, e2, e3⟩ := hp ss pss
  exact ⟨i, M1, n1.sub, by rw [e1]; exact r1, e2, fun y py p M2 H2 us n2 h1 h2 h3 h4 => q y (e3 y py) p M2 H2 us (n1.trans n2) (n1.ex.free h1) h2 h3 h4⟩⟩
theorem s_ownX (k : Nat) {n : Str} {pos' : Pos} (he : ELX X G e t P) (h : ∀ xs, P xs → R.nx (G.set k (.ow t xs))) (hN : X.N.Nodup) (hi : X.N[k]? = some n := by rfl) (hx : Loc X.env.scope n := by first | exact Or.inl rfl | exact Or.inr rfl)
    (hs : swapsWith e (some (.Name n pos')) pos.line X.env = pure false := by rfl) (hf : X.fn n = true ∨ X.env.scope.names.lookup n = some .local := by first | exact .inl rfl | exact .inr rfl) : S1 X G (.Assign [.Name n pos'] e pos) R := ⟨fun D E S tk f =>
  ⟨_, ps_set hN hi hx pe_w hs hf, he.run S _ fun y py p M1 H1 vs n1 hp mp hh r1 => f.nx (S.setOwn n1 hp mp hh r1) (h y py)⟩⟩
end
section
variable {P : Program} {w : World} {K : Fg} {mg : Str → Option Value} {base : Heap} {ι α : Type}
theorem fn_okN {x qual : Str} {st : Stmt} {f : Addr} {fd : FuncData} {N ps : List Str} {k : Nat} {ar : ι → List Sl} {pre : ι → Prop} {t : Ty α} {post : ι → List α → Prop} (F : Fun K x qual st f fd) (S : FnScope N ps (defScope st)) (n : Nat)
    (hn : N.length = ps.length + n) (hl : ∀ i, (ar i).length = ps.length)
    (hb : ∀ (cdv : Value) (A : Around) (outer : List Env) (s : Shared) (H : Hp) (E : XK), Room k (A.deeper (envOfC qual (defScope st) s.heap.objs.size f cdv)) → ∀ i, pre i →
      BN (cxOf CX0 P w K mg base N qual (defScope st) f cdv A outer s H E).nox (ar i ++ List.replicate n .un) (defBody st) t (post i)) : FnOk P w K mg base CX0 (k + 1) f fd ps (spN K ar pre t post) := by
  refine F.ok S (fun vs H Q E h => ?_) (fun cdv A outer s H vs Q E hr h => ⟨_, pss_w, ?_⟩)
  · obtain ⟨i, M, _, r, _⟩ := h
    rw [reps_len r, hl]
  · obtain ⟨i, M, m, r, hp, q⟩ := h
    exact (hb cdv A outer s H E hr i hp).run _ (fun _ _ _ _ => False) (st_start m r (by rw [hl]; exact hn)) takes_false fun y py p M' H' us n h1 h2 h3 h4 => q y py p M' H' us n h1 h2 h3 h4
end
end TL

namespace TL
open PySem PySem.Spec PyProof.Rows L2
section
variable {X : Cx} {G : List Sl} {a : Expr} {pos : Pos} {i : Int}
def firstN (i : Int) : List Int := (List.range i.toNat).map fun k : Nat => (k : Int)
theorem rgV_first (i : Int) : rgV 0 i = (firstN i).map V.int := by
  unfold rgV firstN
  rw [List.map_map, Int.sub_zero]
  apply List.map_congr_left
  intro k _
  show V.int (0 + (k : Int)) = V.int (k : Int)
  rw [Int.zero_add]
/-- list(range(i)) -/
theorem el_listR {p p1 p2 : Pos} (hcm : X.calm = true) (hl : X.mg "list" = none) (hm : X.mg "range" = none) (ha : E X G a tI i) (hi : -1000000 ≤ i ∧ i ≤ 1000000) (hg : Gl X "list" := by rfl) (hg2 : Gl X "range" := by rfl)
    (he : starEach [a] X.env = (false, eval a X.env) :: starEach [] X.env := by rfl) (he2 : starEach [.Call (.Name "range" p1) [a] [] p2] X.env = (false, eval (.Call (.Name "range" p1) [a] [] p2) X.env) :: starEach [] X.env := by rfl) : EL X G (.Call (.Name "list" p) [.Call (.Name "range" p1) [a] [] p2] [] pos) tI (firstN i) := ⟨fun {M0 H0 M H σ} S Q k =>
  ⟨_, pe_listRg hcm hg hl (prg_1 hg2 hm pe_w he) he2, ha.run S _ fun v M1 H1 n1 r1 => ⟨i, r1, by
    refine ⟨?_, fun q hq => ?_⟩
    · unfold RgOk; refine ⟨by omega, by omega, by omega, by omega, ?_⟩
      have : (sizeLine : Nat) ≥ 1000000 := by decide
      omega
    · rw [rgV_first]
      exact k q M1 _ _ ⟨n1.ex.trans (same_new hq), n1.vx, n1.sub.trans (same_new hq), n1.fr⟩ (n1.ex.free hq) (same_none n1.sub hq) upd_same (pair_ints _)⟩⟩⟩
end
end TL

namespace TL
open PySem PySem.Spec PyProof.Rows L2
/-- [a, b], of b only a property is known -/
theorem elx_two {α : Type} {X : Cx} {G : List Sl} {a b : Expr} {pos : Pos} {t : Ty α} {x : α} {Q : α → Prop} {P : List α → Prop} (ha : E X G a t x) (hb : EX X G b t Q) (h : ∀ y, Q y → P [x, y]) (hs : starEach [a, b] X.env = (false, eval a X.env) :: starEach [b] X.env := by rfl) (hs2 : starEach [b] X.env = (false, eval b X.env) :: starEach [] X.env := by rfl) : ELX X G (.List [a, b] pos) t P := ⟨fun {M0 H0 M H σ} S R k =>
  ⟨_, pe_lst (pa_cons pe_w (pa_cons pe_w pa_nil hs2) hs), ha.run S _ fun v M1 H1 n1 r1 => hb.run (S.next n1) _ fun y qy w M2 H2 n2 r2 => ⟨by show 2 ≤ sizeLine; decide, fun p hp =>
    k [x, y] (h y qy) p M2 _ [v, w] ⟨(n1.trans n2).ex.trans (same_new hp), (n1.trans n2).vx, (n1.trans n2).sub.trans (same_new hp), (n1.trans n2).fr⟩ ((n1.trans n2).ex.free hp) (same_none n2.sub hp) upd_same (.cons (t.ext n2.vx r1) (.cons r2 .nil))⟩⟩⟩
end TL

namespace TL
open PySem PySem.Spec PyProof.Rows L2
section
variable {α β γ : Type} {X : Cx} {G : List Sl} {a b c e ib : Expr} {es rest : List Expr} {s : Ty α} {t : Ty β} {u : Ty γ} {x : α} {y : β} {z : γ} {pos : Pos} {i j : Int} {xs ys : List α} {p q : Bool}
/-- xs[i], xs a list of the frame's own -/
theorem e_ixOw (m : Nat) {n : Str} {p1 : Pos} (h0 : G[m]? = some (.ow s xs)) (hib : E X G ib tI i) (h : atI xs i = some x) (hi : X.N[m]? = some n := by rfl)
    (hv : Vis X.env.scope n := by first | exact Or.inl rfl | exact Or.inr (Or.inl rfl) | exact Or.inr (Or.inr rfl))
    (hd : (n == ("__debug__" : Str)) = false := by decide) (hcd : (n == ("__classdict__" : Str)) = false := by decide) (hs : PlainIx ib := by exact fun _ _ => rfl) : E X G (.Subscript (.Name n p1) ib pos) s x := ⟨fun {M0 H0 M H σ} S Q k => by
  obtain ⟨a0, vs0, e0, hh0, _, pr0, _⟩ := S.putOwn (ys := xs) h0
  refine ⟨_, pe_ix ix_list (pe_var hi hv hd hcd) pe_w hs, .ref a0, e0, hib.run S _ fun w M2 H2 n2 r2 => ?_⟩
  obtain ⟨v', g1, g2⟩ := atI_paired pr0 h
  exact ⟨a0, vs0, i, v', rfl, r2, SqL.of (n2.ex _ _ hh0), g1, k v' M2 H2 n2 (s.ext n2.vx g2)⟩⟩
end
end TL

namespace TL
open PySem PySem.Spec PyProof.Rows L2
/-! ### sorted, of tuples of ints of any size -/
def lexI : List Int → List Int → Bool
  | [], [] => false
  | [], _ :: _ => true
  | _ :: _, [] => false
  | a :: as, b :: bs => if a = b then lexI as bs else decide (a < b)
theorem lexI_cons {a b : Int} {as bs : List Int} : lexI (a :: as) (b :: bs) = if a = b then lexI as bs else decide (a < b) := rfl
theorem lexI_asym : ∀ x y : List Int, lexI x y = true → lexI y x = false
  | [], [], h => by cases h
  | [], _ :: _, _ => rfl
  | _ :: _, [], h => by cases h
  | a :: as, b :: bs, h => by
    rw [lexI_cons] at h ⊢
    by_cases e : a = b
    · rw [if_pos e] at h; rw [if_pos e.symm]; exact lexI_asym as bs h
    · rw [if_neg e] at h; rw [if_neg (Ne.symm e)]
      have h := of_decide_eq_true h
      exact decide_eq_false (by omega)
theorem lexI_anti : ∀ x y : List Int, lexI x y = false → lexI y x = false → x = y
  | [], [], _, _ => rfl
  | [], _ :: _, h, _ => by cases h
  | _ :: _, [], _, h => by cases h
  | a :: as, b :: bs, h1, h2 => by
    rw [lexI_cons] at h1 h2
    by_cases e : a = b
    · rw [if_pos e] at h1; rw [if_pos e.symm] at h2; rw [e, lexI_anti as bs h1 h2]
    · rw [if_neg e] at h1; rw [if_neg (Ne.symm e)] at h2
      have h1 := of_decide_eq_false h1
      have h2 := of_decide_eq_false h2
      omega
theorem lexI_tr : ∀ x y z : List Int, lexI y x = false → lexI z y = false → lexI z x = false
  | [], [], z, _, h2 => h2
  | _ :: _, [], [], h1, _ => by cases h1
  | _ :: _, [], _ :: _, h1, _ => by cases h1
  | [], _ :: _, [], _, _ => rfl
  | [], _ :: _, _ :: _, _, _ => rfl
  | _ :: _, _ :: _, [], _, h2 => by cases h2
  | a :: as, b :: bs, c :: cs, h1, h2 => by
    rw [lexI_cons] at h1 h2 ⊢
    by_cases e : b = a
    · rw [if_pos e] at h1
      by_cases f : c = b
      · rw [if_pos f] at h2; rw [if_pos (f.trans e)]; exact lexI_tr as bs cs h1 h2
      · rw [if_neg f] at h2
        rw [if_neg (fun q => f (q.trans e.symm)), ← e]; exact h2
    · rw [if_neg e] at h1
      have h1 := of_decide_eq_false h1
      by_cases f : c = b
      · rw [if_neg (fun q => e (f.symm.trans q)), f]; exact decide_eq_false h1
      · rw [if_neg f] at h2
        have h2 := of_decide_eq_false h2
        rw [if_neg (by omega)]
        exact decide_eq_false (by omega)
theorem swo_lexI {α : Type} (k : α → List Int) : SrtO.Swo fun v u => lexI (k v) (k u) := ⟨fun x y => lexI_asym _ _, fun x y z => lexI_tr _ _ _⟩
section
variable {prog : Program} {w : World} {A : Around} {E : Value → Shared → Prop} {s : Shared}
theorem kat_lexI {b : Bool} {Q : Bool → Shared → Prop} {xs : List Value} {ns : List Int} (hx : IntsAre xs ns) : ∀ {ys : List Value} {ms : List Int} (i : Nat), IntsAre ys ms → Q (lexI ns ms) s → PySem.W.KatLex prog w A b (decide (ns.length < ms.length)) Q (xs.zip ys) i s := by
  induction hx with
  | nil =>
    intro ys ms i hy h
    cases hy with
    | nil => exact PySem.W.kat_nil h
    | cons q u hy => exact PySem.W.kat_nil (by simpa [lexI] using h)
  | @cons p t xs ns hx ih =>
    intro ys ms i hy h
    cases hy with
    | nil => exact PySem.W.kat_nil (by simpa [lexI] using h)
    | @cons q u ys ms hy =>
      show PySem.W.KatLex prog w A b _ Q ((Value.int p t, Value.int q u) :: xs.zip ys) i s
      have el : decide ((p :: ns).length < (q :: ms).length) = decide (ns.length < ms.length) := decide_eq_decide.mpr (by simp)
      rw [el]
      rw [lexI_cons] at h
      refine PySem.W.kat_cons (wpAny_eqBool_int ?_)
      by_cases e : p = q
      · rw [if_pos e] at h
        subst e
        rw [beq_self_eq_true]
        exact PySem.W.kat_yes (ih (i + 1) hy h)
      · rw [if_neg e] at h
        rw [show (p == q) = false from beq_eq_false_iff_ne.mpr e]
        exact PySem.W.kat_no (TS.oneLt_ints _ h)
theorem waysCmp {vs : List Value} {k : Value → List Int} (hp : ∀ v ∈ vs, TS.TupInts s.heap v (k v)) : SrtO.Cmp prog w A s (tuples' true) (fun p => p.1 ∈ vs) (SrtO.lt2 fun v u => lexI (k v) (k u)) := by
  intro p q hm hm'
  have h1 := hp _ hm
  have h2 := hp _ hm'
  show wpAny (model prog w) A (keyLt' (tuples' true) p.1 q.1) (fun r s' => s' = s ∧ r = lexI (k p.1) (k q.1)) (fun _ _ => False) s
  generalize k p.1 = ns at h1 ⊢
  generalize k q.1 = ms at h2 ⊢
  obtain ⟨a, xs, e1, ⟨o, ho, hc, n, hdt⟩, i⟩ := h1
  obtain ⟨a', ys, e2, ⟨o', ho', hc', n', hdt'⟩, i'⟩ := h2
  rw [e1, e2]
  refine PySem.W.kat_lt ho hdt ho' hdt' ?_
  have sz : decide (xs.size < ys.size) = decide (ns.length < ms.length) := by
    have l1 := i.length
    have l2 := i'.length
    rw [Array.length_toList] at l1 l2
    rw [l1, l2]
  rw [sz]
  exact kat_lexI i 0 i' ⟨rfl, rfl⟩
theorem firstsW {h : Heap} {k : Value → List Int} : ∀ {vs : List Value}, (∀ v ∈ vs, TS.TupInts h v (k v) ∧ k v ≠ []) → ∃ fs : List Value, PySem.W.KatTups h vs fs ∧ fs.length = vs.length ∧ ∀ f ∈ fs, ∃ x t, f = Value.int x t
  | [], _ => ⟨[], PySem.W.KatTups.nil, rfl, fun _ hm => by simp at hm⟩
  | v :: vs, hp => by
    obtain ⟨fs, h1, h2, h3⟩ := firstsW (vs := vs) fun v' hm => hp v' (List.mem_cons_of_mem _ hm)
    obtain ⟨hv, hne⟩ := hp v (List.mem_cons_self ..)
    generalize k v = ns at hv hne
    obtain ⟨a, xs, rfl, ⟨o, ho, hc, n, hdt⟩, i⟩ := hv
    obtain ⟨y, ys, e⟩ : ∃ y ys, xs.toList = y :: ys := by
      cases q : xs.toList with
      | nil =>
        rw [q] at i
        cases i
        exact absurd rfl hne
      | cons y ys => exact ⟨y, ys, rfl⟩
    obtain ⟨m, t, hy⟩ := i.all y (by rw [e]; exact List.mem_cons_self ..)
    refine ⟨y :: fs, PySem.W.KatTups.cons ho hc hdt ?_ h1, by simp [h2], ?_⟩
    · rw [← Array.getElem?_toList, e]; rfl
    · intro f hf
      rcases List.mem_cons.mp hf with rfl | hf
      · exact ⟨m, t, hy⟩
      · exact h3 f hf
theorem sortableW {a : Addr} {vs : List Value} {k : Value → List Int} (h0 : 0 < vs.length) (hp : ∀ v ∈ vs, TS.TupInts s.heap v (k v) ∧ k v ≠ []) (ha : ∀ o, s.heap.get? a = some o → o.cls ≠ .type "tuple") : SrtO.SortableO prog w A s a vs fun v u => lexI (k v) (k u) := by
  intro h' keep
  have hp' : ∀ v ∈ vs, TS.TupInts h' v (k v) ∧ k v ≠ [] := fun v hm => ⟨(hp v hm).1.keeps fun b o e c => keep b o (fun z => by subst z; exact ha o e c) e, (hp v hm).2⟩
  obtain ⟨fs, h1, h2, h3⟩ := firstsW hp'
  refine ⟨tuples' true, fun Q E hq => ?_, waysCmp fun v hm => (hp' v hm).1⟩
  refine PySem.W.kat_kind (T := .type "int") h1 (by omega) (fun f hm => ?_) (by rfl) ?_
  · obtain ⟨x, t, rfl⟩ := h3 f hm
    exact PySem.W.Looks.now
  · have e : (Value.type "int" != Value.type "tuple") = true := by first | decide +kernel | rfl | decide
    rw [e]
    exact hq
theorem sortedW {l : Addr} {vs : List Value} {k : Value → List Int} {Q : Value → Shared → Prop} (hl : s.heap.IsList l vs.toArray) (hz : vs.length ≤ sizeLine) (hp : ∀ v ∈ vs, TS.TupInts s.heap v (k v) ∧ k v ≠ [])
    (h : ∀ (h' : Heap) (d : Addr) (out : List Value), SrtO.Srtd (fun v u => lexI (k v) (k u)) out → SrtO.Stb (fun v u => lexI (k v) (k u)) out vs → (∀ b o, s.heap.get? b = some o → h'.get? b = some o) → s.heap.objs.size ≤ d → (∃ n, h'.get? d = some (seqObj "list" out.toArray n)) → Q (.ref d) { s with heap := h' }) :
    wpAny (model prog w) A (call (.builtin "sorted") [.ref l]) Q E s := by
  refine SrtO.sorted_ord (swo_lexI k) hl hz (fun h2 h₁ a ha kk => ?_) fun out hs hb => ?_
  · refine sortableW (s := { s with heap := h₁ }) (by omega) (fun v hm => ⟨(hp v hm).1.keeps fun b o e _ => (kk b o e).2, (hp v hm).2⟩) fun o e => ?_
    have e' : some o = some (seqObj "list" vs.toArray 0) := e.symm.trans ha
    cases e'
    intro c
    exact absurd (Value.type.inj c) (by decide)
  · exact h _ _ out hs hb (fun b o e => sortedAll_old e) (Nat.le_succ _) (sortedAll_at s.heap vs out.toArray)
end
/-- sorted(xs) of tuples of ints -/
def rSortW (K : Fg) : List V → Hp → VK → Prop := fun vs H Q => ∃ (a : Addr) (xs : List V) (kss : List (List Int)), vs = [V.ref a] ∧ SqL K H a xs ∧ Paired (fun x ns => TupI K H x ns ∧ ns ≠ []) xs kss ∧
  ∀ k : V → List Int, Paired (fun x ns => k x = ns) xs kss → ∀ ys p, SrtO.Srtd (fun x y => lexI (k x) (k y)) ys → ys.Perm xs → H p = none → Q (.ref p) (upd H p (.lst ys))
theorem paired_all {α β : Type} {F : α → β → Prop} : ∀ {l₁ : List α} {l₂ : List β}, Paired F l₁ l₂ → ∀ a ∈ l₁, ∃ b, F a b
  | _, _, .cons h t, a, ha => by
    rcases List.mem_cons.mp ha with z | z
    · subst z; exact ⟨_, h⟩
    · exact paired_all t a z
theorem paired_memR {α β : Type} {F G : α → β → Prop} : ∀ {l₁ : List α} {l₂ : List β}, Paired F l₁ l₂ → (∀ a b, b ∈ l₂ → F a b → G a b) → Paired G l₁ l₂
  | _, _, .nil, _ => .nil
  | _, _, .cons h t, f => .cons (f _ _ (by simp) h) (paired_memR t fun a b hb => f a b (by simp [hb]))
theorem cr_sortW {X : Cx} : CallR X (.builtin "sorted") (rSortW X.K) := by
  intro pins s σ H vs us Q I r h
  obtain ⟨a, xs, kss, rfl, hs, hx, q⟩ := h
  obtain ⟨its, rv, hl, hz⟩ := I.list hs
  rw [Vals.ref1 r]
  obtain ⟨e1, e2⟩ := bkV_refs rv fun x m => by
    obtain ⟨ns, ⟨t, e, _⟩, _⟩ := paired_all hx x m
    exact ⟨t, e⟩
  let kk : Value → List Int := fun u => TS.intsOf s.heap u
  let k : V → List Int := fun v => match v with | .ref t => TS.intsOf s.heap (.ref t) | _ => []
  have hk : Paired (fun x ns => k x = ns) xs kss := paired_imp (fun x ns hh => by
    obtain ⟨⟨t, e, ht⟩, _⟩ := hh
    subst e
    exact (tupI_raw I ht).ints) hx
  have hkb : ∀ u ∈ its, k (bkV u) = kk u := fun u hu => by
    obtain ⟨t, rfl⟩ := e2 u hu
    rfl
  refine sortedW (k := kk) hl.isList (by rw [← rv.length]; exact hz) (fun v hv => ?_) fun h' d out h1 h2 kp hd hn => ?_
  · obtain ⟨t, rfl⟩ := e2 v hv
    have hm : V.ref t ∈ xs := by rw [e1]; exact List.mem_map.mpr ⟨_, hv, rfl⟩
    obtain ⟨ns, ⟨t', e, ht⟩, hn⟩ := paired_all hx _ hm
    cases e
    have ti := tupI_raw I ht
    have : kk (.ref t) = ns := ti.ints
    rw [this]
    exact ⟨ti, hn⟩
  · have hmem : ∀ u ∈ out, u ∈ its := fun u hu => h2.perm.mem_iff.mp hu
    obtain ⟨n, hn⟩ := hn
    refine ⟨.ref d, upd H d (.lst (out.map bkV)), I.laid (t' := s.toks) kp hd ⟨?_, out, n, bkV_vals fun u hu => e2 u (hmem u hu), hn⟩, rfl, q k hk _ d ?_ ?_ (I.hok.fresh hd)⟩
    · rw [List.length_map, h2.perm.length_eq, ← rv.length]; exact hz
    · refine List.pairwise_map.mpr (h1.imp_of_mem fun {u v} hu hv hh => ?_)
      show lexI (k (bkV v)) (k (bkV u)) = false
      rw [hkb u (hmem u hu), hkb v (hmem v hv)]; exact hh
    · rw [e1]; exact h2.perm.map _
theorem paired_perm {α β : Type} {F : α → β → Prop} {l₁ m₁ : List α} (p : l₁.Perm m₁) : ∀ {l₂ : List β}, Paired F l₁ l₂ → ∃ m₂, l₂.Perm m₂ ∧ Paired F m₁ m₂ := by
  induction p with
  | nil => intro l₂ h; exact ⟨l₂, .refl _, h⟩
  | cons x _ ih =>
    intro l₂ h
    cases h with
    | cons h t =>
      obtain ⟨m₂, p1, p2⟩ := ih t
      exact ⟨_ :: m₂, p1.cons _, .cons h p2⟩
  | swap x y l =>
    intro l₂ h
    cases h with
    | cons h t =>
      cases t with
      | cons h' t => exact ⟨_ :: _ :: _, .swap _ _ _, .cons h' (.cons h t)⟩
  | trans _ _ ih1 ih2 =>
    intro l₂ h
    obtain ⟨m₂, p1, p2⟩ := ih1 h
    obtain ⟨n₂, q1, q2⟩ := ih2 p2
    exact ⟨n₂, p1.trans q1, q2⟩
theorem paired_and {α β : Type} {F G : α → β → Prop} : ∀ {l₁ : List α} {l₂ : List β}, Paired F l₁ l₂ → Paired G l₁ l₂ → Paired (fun a b => F a b ∧ G a b) l₁ l₂
  | _, _, .nil, .nil => .nil
  | _, _, .cons h t, .cons h' t' => .cons ⟨h, h'⟩ (paired_and t t')
theorem paired_mapR {α β γ : Type} {F : α → γ → Prop} {f : β → γ} : ∀ {l₁ : List α} {l₂ : List β}, Paired (fun a b => F a (f b)) l₁ l₂ → Paired F l₁ (l₂.map f)
  | _, _, .nil => .nil
  | _, _, .cons h t => .cons h (paired_mapR t)
theorem paired_unmapR {α β γ : Type} {F : α → γ → Prop} {f : β → γ} : ∀ {l₁ : List α} {l₂ : List β}, Paired F l₁ (l₂.map f) → Paired (fun a b => F a (f b)) l₁ l₂
  | _, [], h => by cases h; exact .nil
  | _, _ :: _, h => by
    cases h with
    | cons h t => exact .cons h (paired_unmapR t)
theorem paired_mem2 {α β : Type} {F : α → β → Prop} : ∀ {l₁ : List α} {l₂ : List β}, Paired F l₁ l₂ → ∀ b ∈ l₂, ∃ a ∈ l₁, F a b
  | _, _, .cons h t, b, hb => by
    rcases List.mem_cons.mp hb with z | z
    · subst z; exact ⟨_, List.mem_cons_self .., h⟩
    · obtain ⟨a, h1, h2⟩ := paired_mem2 t b z
      exact ⟨a, List.mem_cons_of_mem _ h1, h2⟩
theorem srtd_paired {α β : Type} {f : α → List Int} {g : β → List Int} : ∀ {l₁ : List α} {l₂ : List β}, Paired (fun a b => f a = g b) l₁ l₂ → SrtO.Srtd (fun x y => lexI (f x) (f y)) l₁ → SrtO.Srtd (fun x y => lexI (g x) (g y)) l₂
  | _, _, .nil, _ => .nil
  | _, _, .cons h t, s => by
    obtain ⟨s1, s2⟩ := List.pairwise_cons.mp s
    refine List.pairwise_cons.mpr ⟨fun b hb => ?_, srtd_paired t s2⟩
    obtain ⟨a, h1, h2⟩ := paired_mem2 t b hb
    show lexI (g b) (g _) = false
    rw [← h, ← h2]; exact s1 a h1
/-- xs sorted by keys that are lists of ints -/
def sortK {α : Type} (key : α → List Int) (xs : List α) : List α := xs.mergeSort fun a b => !lexI (key b) (key a)
theorem sortK_perm {α : Type} (key : α → List Int) (xs : List α) : (sortK key xs).Perm xs := List.mergeSort_perm _ _
theorem sortK_srtd {α : Type} (key : α → List Int) (xs : List α) : SrtO.Srtd (fun x y => lexI (key x) (key y)) (sortK key xs) := by
  refine (List.pairwise_mergeSort (le := fun a b => !lexI (key b) (key a)) (fun a b c h1 h2 => ?_) (fun a b => ?_) xs).imp fun h => by simpa using h
  · have h1 : lexI (key b) (key a) = false := by simpa using h1
    have h2 : lexI (key c) (key b) = false := by simpa using h2
    rw [lexI_tr _ _ _ h1 h2]; rfl
  · cases q : lexI (key b) (key a) with
    | false => rfl
    | true => rw [lexI_asym _ _ q]; rfl
theorem srtd_uniq {α : Type} {key : α → List Int} : ∀ {l m : List α}, l.Perm m → (∀ a ∈ l, ∀ b ∈ l, key a = key b → a = b) → SrtO.Srtd (fun x y => lexI (key x) (key y)) l → SrtO.Srtd (fun x y => lexI (key x) (key y)) m → l = m
  | [], m, p, _, _, _ => by rw [List.Perm.nil_eq p]
  | x :: l, m, p, hi, s1, s2 => by
    cases m with
    | nil => exact absurd p.length_eq (by simp)
    | cons y m =>
      obtain ⟨a1, a2⟩ := List.pairwise_cons.mp s1
      obtain ⟨b1, b2⟩ := List.pairwise_cons.mp s2
      have e : x = y := by
        refine hi x (List.mem_cons_self ..) y (p.mem_iff.mpr (List.mem_cons_self ..)) ?_
        have hy : y ∈ x :: l := p.mem_iff.mpr (List.mem_cons_self ..)
        have hx : x ∈ y :: m := p.mem_iff.mp (List.mem_cons_self ..)
        rcases List.mem_cons.mp hy with z | z
        · rw [z]
        · rcases List.mem_cons.mp hx with w | w
          · rw [w]
          · exact (lexI_anti _ _ (a1 y z) (b1 x w)).symm
      subst e
      rw [srtd_uniq ((List.perm_cons x).mp p) (fun a ha b hb => hi a (List.mem_cons_of_mem _ ha) b (List.mem_cons_of_mem _ hb)) a2 b2]
section
variable {α β γ : Type} {X : Cx} {G : List Sl} {a b c e ib : Expr} {es rest : List Expr} {s : Ty α} {t : Ty β} {u : Ty γ} {x : α} {y : β} {z : γ} {pos : Pos} {i j : Int} {xs ys : List α} {p q : Bool}
/-- sorted(xs), xs of tuples of ints, told by key -/
theorem el_sort {p : Pos} (key : α → List Int) (hk : ∀ M v x, s.rep X.K M v x → ∃ t, v = V.ref t ∧ SqT X.K M t ((key x).map V.int)) (hm : X.mg "sorted" = none) (ha : E X G a (tLst s) xs) (hne : ∀ x ∈ xs, key x ≠ []) (hi : ∀ x ∈ xs, ∀ y ∈ xs, key x = key y → x = y) (hg : Gl X "sorted" := by rfl) (he : starEach [a] X.env = (false, eval a X.env) :: starEach [] X.env := by rfl) : EL X G (.Call (.Name "sorted" p) [a] [] pos) s (sortK key xs) :=
  el_cb cr_sortW (ea_cons ha ea_nil he) hm (fun M H vs Q m r k => by
    obtain ⟨v, rfl, p, ws, e1, e2, e3⟩ := reps1 r
    refine ⟨p, ws, xs.map key, by rw [e1], SqL.of (m _ _ e2), paired_mapR (paired_imp (fun w x hh => hh) (paired_memR e3 fun w x hx hr => ?_)), fun kf hkf zs d h1 h2 hd => ?_⟩
    · obtain ⟨t, ht, h2⟩ := hk M w x hr
      exact ⟨⟨t, ht, sqT_ext m h2⟩, hne x hx⟩
    · obtain ⟨ys, q1, q2⟩ := paired_perm h2.symm (paired_and e3 (paired_unmapR hkf))
      have es : ys = sortK key xs := srtd_uniq (q1.symm.trans (sortK_perm key xs).symm) (fun a ha b hb => hi a (q1.mem_iff.mpr ha) b (q1.mem_iff.mpr hb)) (srtd_paired (paired_imp (fun _ _ hh => hh.2) q2) h1) (sortK_srtd key xs)
      rw [es] at q2
      exact k d M _ zs (nx_lay m hd) hd (same_none m hd) upd_same (paired_imp (fun _ _ hh => hh.1) q2)) (by decide +kernel) hg (by decide) (by decide) he
end
end TL

namespace TL
open PySem PySem.Spec PyProof.Rows L2
section
variable {α β γ : Type} {X : Cx} {G : List Sl} {a b c e ib : Expr} {es rest : List Expr} {s : Ty α} {t : Ty β} {u : Ty γ} {x : α} {y : β} {z : γ} {pos : Pos} {i j : Int} {xs ys : List α} {p q : Bool} {R : Out} {scope : Scope} {own : List (Str × Nat)} {n : Str} {pn : Pos}
/-- x in xs, of flat values told by f -/
structure FlatT (s : Ty α) (f : α → V) : Prop where
  is : ∀ {K : Fg} {M : Hp} {v : V} {x : α}, s.rep K M v x → v = f x
  flat : ∀ x, flatV (f x) = true
theorem flat_map {f : α → V} (h : FlatT s f) {K : Fg} {M : Hp} : ∀ {vs : List V} {xs : List α}, Paired (s.rep K M) vs xs → vs = xs.map f
  | _, _, .nil => rfl
  | _, _, .cons r p => by rw [List.map_cons, flat_map h p, h.is r]
theorem flat_all {f : α → V} (h : FlatT s f) : ∀ xs : List α, (xs.map f).all flatV = true
  | [] => rfl
  | x :: xs => by rw [List.map_cons, List.all_cons, flat_all h xs, h.flat]; rfl
theorem inV_flat {f : α → V} [DecidableEq α] (he : ∀ x y, eqV (f x) (f y) = decide (x = y)) (x : α) : ∀ xs : List α, inV (f x) (xs.map f) = decide (x ∈ xs)
  | [] => rfl
  | y :: xs => by
    have ih := inV_flat he x xs
    unfold inV at ih ⊢
    rw [List.map_cons, List.any_cons, ih, he]
    by_cases h : y = x
    · subst h; simp
    · have h' : ¬ x = y := fun z => h z.symm
      simp [h, h']
theorem cv_inF {f : α → V} [DecidableEq α] (h : FlatT s f) (he : ∀ x y, eqV (f x) (f y) = decide (x = y)) {x : α} {xs : List α} : CmpV X .In s (tLst s) x xs (decide (x ∈ xs)) := ⟨_, op_in_seq, fun M H v w Q m h1 h2 k => by
  obtain ⟨p, vs, e1, e2, e3⟩ := h2
  have e4 := flat_map h e3
  subst e4
  have h1' := h.is h1
  subst h1'
  refine ⟨p, _, e1, .inl (SqL.of (m _ _ e2)), h.flat x, flat_all h xs, ?_⟩
  rw [if_neg (by decide), inV_flat he]; exact k M H (Nx.refl m)⟩
theorem cv_ninF {f : α → V} [DecidableEq α] (h : FlatT s f) (he : ∀ x y, eqV (f x) (f y) = decide (x = y)) {x : α} {xs : List α} : CmpV X .NotIn s (tLst s) x xs (!decide (x ∈ xs)) := ⟨_, op_notIn_seq, fun M H v w Q m h1 h2 k => by
  obtain ⟨p, vs, e1, e2, e3⟩ := h2
  have e4 := flat_map h e3
  subst e4
  have h1' := h.is h1
  subst h1'
  refine ⟨p, _, e1, .inl (SqL.of (m _ _ e2)), h.flat x, flat_all h xs, ?_⟩
  rw [if_pos (by decide), inV_flat he]; exact k M H (Nx.refl m)⟩
theorem flat_B : FlatT tB V.bl := ⟨fun h => h, fun _ => rfl⟩
theorem flat_S : FlatT tS V.str := ⟨fun h => h, fun _ => rfl⟩
theorem eqV_B (x y : Bool) : eqV (.bl x) (.bl y) = decide (x = y) := by cases x <;> cases y <;> rfl
theorem eqV_S (x y : Str) : eqV (.str x) (.str y) = decide (x = y) := by
  show (x == y) = decide (x = y)
  by_cases h : x = y
  · subst h; simp
  · rw [decide_eq_false h]; simpa using h
theorem cv_inBL {x : Bool} {xs : List Bool} : CmpV X .In tB (tLst tB) x xs (decide (x ∈ xs)) := cv_inF flat_B eqV_B
theorem cv_inSL {x : Str} {xs : List Str} : CmpV X .In tS (tLst tS) x xs (decide (x ∈ xs)) := cv_inF flat_S eqV_S
theorem cv_ninSL {x : Str} {xs : List Str} : CmpV X .NotIn tS (tLst tS) x xs (!decide (x ∈ xs)) := cv_ninF flat_S eqV_S
/-- [e for i in reversed(range(n))] -/
theorem lc_RR {f : Nat → β} {j : Int} {p1 p2 p3 p4 : Pos} (hv : X.mg "reversed" = none) (hm : X.mg "range" = none) (he : E X G a tI j) (hj : 0 ≤ j ∧ j ≤ 1000000) (i : Nat)
    (hel : ∀ (s0 : Shared) (H : Hp) (C : Addr) (cl : List (Str × Addr)) (fp : List Addr) (m : Nat), (m : Int) < j → E (X.blk s0 H scope (compEnvC scope cl C X.env) fp) ((wipeG G (own.map (·.2))).set i (.vl tI (j - 1 - (m : Int)))) e t (f m))
    (ok : BlkOk X.N X.env.scope scope own)
    (hg : ∀ (s0 : Shared) (H : Hp) (C : Addr) (cl : List (Str × Addr)) (fp : List Addr), PG (X.blk s0 H scope (compEnvC scope cl C X.env) fp) (.Name n pn) (gName i)) (hio : i ∈ own.map (·.2) := by decide)
    (hgr : Gl X "range" := by rfl) (hgv : Gl X "reversed" := by rfl) (hst : starEach [a] X.env = (false, eval a X.env) :: starEach [] X.env := by rfl)
    (hst2 : starEach [.Call (.Name "range" p1) [a] [] p2] X.env = (false, eval (.Call (.Name "range" p1) [a] [] p2) X.env) :: starEach [] X.env := by rfl)
    (hs : ∀ x, foldedSetIterable (.Call (.Name "reversed" p3) [.Call (.Name "range" p1) [a] [] p2] [] p4) X.env x = pure x := by intro _; rfl) : LC X G e (.Name n pn) (.Call (.Name "reversed" p3) [.Call (.Name "range" p1) [a] [] p2] [] p4) [] scope t ((List.range j.toNat).map f) := ⟨_, _, _, wBlk X scope e, own, (pi_revR hgv hv (prg_1 hgr hm pe_w hst) hst2), ok, hg, (fun _ _ _ _ _ => pts_nil), (fun s0 H C cl fp => pe_blk s0 H C cl fp), hs, fun {M0 H0 M H σ} S Q q => by
  refine he.run S _ fun v M1 H1 n1 r1 => ?_
  refine ⟨j, by rw [show v = V.int j from r1], by decide, by decide, by omega, by omega, fun D hD => lc_it (w := walk_rangeC) (fun m H' => LcI X.K t M1 H1 D ((List.range m).map f) H') (lcI_start n1.sub hD) (fun _ _ _ _ => trivial) ?_ ?_⟩
  · rintro m x H' H2 hm hI ⟨rfl, rfl⟩
    have e0 : (0 : Int) + (((j - 0).toNat : Nat) : Int) - 1 + (m : Nat) * (-1) = j - 1 - (m : Int) := by omega
    dsimp only
    rw [e0]
    refine ⟨wiped hio, fun s0 H2 C cl fp => ?_⟩
    rw [List.range_succ, List.map_append]
    have hl : ((List.range m).map f).length < 1000000 := by
      rw [List.length_map, List.length_range]; omega
    exact lcI_turn (X := X) rfl hD hI hl (fun M' n' => St.block (S.next n1) n' _ i (s := tI) (x := j - 1 - (m : Int)) rfl) (hel s0 H2 C cl fp m (by omega))
  · rintro H' ⟨M', ws, n', mD, hh, pr⟩
    rw [Int.sub_zero] at pr
    exact q D M' H' ws (n1.trans n') (n1.ex.free hD) mD hh pr⟩
/-- xs.extend(e) -/
theorem s_ext (k : Nat) {n : Str} {p1 apos cpos : Pos} (h0 : G[k]? = some (.ow s xs)) (he : E X G e (tLst s) ys) (hz : xs.length + ys.length ≤ 1000000) (h : R.nx (G.set k (.ow s (xs ++ ys)))) (hi : X.N[k]? = some n := by rfl)
    (hv : Vis X.env.scope n := by first | exact Or.inl rfl | exact Or.inr (Or.inl rfl) | exact Or.inr (Or.inr rfl))
    (hd : (n == ("__debug__" : Str)) = false := by decide) (hcd : (n == ("__classdict__" : Str)) = false := by decide)
    (hst : starEach [e] X.env = (false, eval e X.env) :: starEach [] X.env := by rfl)
    (hbase : attributeBase (.Name n p1) "extend" X.env (eval (.Name n p1) X.env) = eval (.Name n p1) X.env := by rfl)
    (hfew : ((backTo cpos (starEach [e] X.env)).all (fun x => !x.1) && (backToKw cpos (keywordEach [] X.env)).all (fun x => x.1.isSome)
      && decide ([e].length + ([] : List Keyword).length + (if ([] : List Keyword).isEmpty then 0 else 1) < 30)) = true := by rfl)
    (hline : (apos.endLine == cpos.line) = true := by rfl) (hplain : (backTo cpos (starEach [] X.env)).any (·.1) = false := by rfl)
    (hs : swapsWith (.Call (.Attribute (.Name n p1) "extend" apos) [e] [] cpos) none pos.line X.env = pure false := by rfl) :
    S1 X G (.Expr (.Call (.Attribute (.Name n p1) "extend" apos) [e] [] cpos) pos) R := ⟨fun D E S tk f => by
  obtain ⟨a0, vs0, e0, hh0, _, _, _⟩ := S.putOwn (ys := xs) h0
  refine ⟨_, ps_expr (pe_bm PySem.F.plainAttrs_list PySem.F.slot_list_extend PySem.F.type_list_extend mt_extend (pe_var hi hv hd hcd) (pa_cons pe_w pa_nil hst) hbase hfew hline hst hplain) hs, ?_⟩
  refine ⟨.ref a0, e0, .inl ⟨rfl, vs0, SqL.of hh0⟩, he.run S _ fun v M1 H1 n1 r1 => ?_⟩
  have S1 := S.next n1
  obtain ⟨a, vs, e1, hh, mp, pr, upd'⟩ := S1.putOwn (ys := xs ++ ys) h0
  rw [e0] at e1
  cases e1
  obtain ⟨b, ws, eb, hb, pb⟩ := r1
  subst eb
  exact ⟨a0, b, vs, ws, rfl, rfl, hh, S1.sub _ _ hb, by rw [pr.length, pb.length]; exact Nat.le_trans hz (by decide), f.nx (upd' _ (paired_app pr pb)) h⟩⟩
/-- x, y = xs.pop() -/
theorem s_popU (m m1 m2 : Nat) {n n1 n2 : Str} {p1 apos cpos q1 q2 q3 : Pos} {kt : Nat} {zs : List (α × β)} (h0 : G[m]? = some (.ow (tP2 s t) (zs ++ [(x, y)]))) (h : R.nx (((G.set m (.ow (tP2 s t) zs)).set m1 (.vl s x)).set m2 (.vl t y)))
    (hN : X.N.Nodup) (hcm : X.calm = true) (hi : X.N[m]? = some n := by rfl) (hi1 : X.N[m1]? = some n1 := by rfl) (hi2 : X.N[m2]? = some n2 := by rfl)
    (hv : Vis X.env.scope n := by first | exact Or.inl rfl | exact Or.inr (Or.inl rfl) | exact Or.inr (Or.inr rfl))
    (hd : (n == ("__debug__" : Str)) = false := by decide) (hcd : (n == ("__classdict__" : Str)) = false := by decide)
    (hbase : attributeBase (.Name n p1) "pop" X.env (eval (.Name n p1) X.env) = eval (.Name n p1) X.env := by rfl) (hline : (apos.endLine == cpos.line) = true := by rfl)
    (hx1 : Loc X.env.scope n1 := by first | exact Or.inl rfl | exact Or.inr rfl) (hx2 : Loc X.env.scope n2 := by first | exact Or.inl rfl | exact Or.inr rfl) (hf1 : X.fn n1 = true ∨ X.env.scope.names.lookup n1 = some .local := by first | exact .inl rfl | exact .inr rfl) (hf2 : X.fn n2 = true ∨ X.env.scope.names.lookup n2 = some .local := by first | exact .inl rfl | exact .inr rfl)
    (hs1 : (assignEach [.Name n1 q1, .Name n2 q2] X.env).map (·.2) = assign (.Name n1 q1) X.env :: (assignEach [.Name n2 q2] X.env).map (·.2) := by rfl) (hs2 : (assignEach [.Name n2 q2] X.env).map (·.2) = assign (.Name n2 q2) X.env :: (assignEach [] X.env).map (·.2) := by rfl)
    (hn : (assignEach [.Name n1 q1, .Name n2 q2] X.env).length = 2 := by rfl) (hst : (assignEach [.Name n1 q1, .Name n2 q2] X.env).findIdx? (·.1) = none := by rfl)
    (hs : swapsWithSole [.Tuple [.Name n1 q1, .Name n2 q2] kt q3] (.Call (.Attribute (.Name n p1) "pop" apos) [] [] cpos) pos.line X.env = pure false := by rfl) (hw : swappedStores [.Tuple [.Name n1 q1, .Name n2 q2] kt q3] (.Call (.Attribute (.Name n p1) "pop" apos) [] [] cpos) X.env = pure none := by rfl)
    (h1 : (assignEach [.Tuple [.Name n1 q1, .Name n2 q2] kt q3] X.env).map (·.2) = [assign (.Tuple [.Name n1 q1, .Name n2 q2] kt q3) X.env] := by rfl) :
    S1 X G (.Assign [.Tuple [.Name n1 q1, .Name n2 q2] kt q3] (.Call (.Attribute (.Name n p1) "pop" apos) [] [] cpos) pos) R := ⟨fun D E S tk f => by
  obtain ⟨a, vs, e0, hh, mp, pr, upd'⟩ := S.putOwn (ys := zs) h0
  obtain ⟨ws, w, rfl, pw, rw_⟩ := paired_last pr
  refine ⟨_, ps_asg (pe_bm0 PySem.F.plainAttrs_list PySem.F.slot_list_pop PySem.F.type_list_pop mt_pop (pe_var hi hv hd hcd) hbase hline) (pg_tup hcm (pgs_cons (pg_name hN hi1 hx1 hf1) (pgs_cons (pg_name hN hi2 hx2 hf2) pgs_nil hs2) hs1) hn hst) hs hw h1, ?_⟩
  refine ⟨.ref a, e0, .inl ⟨rfl, _, SqL.of hh⟩, a, _, w, rfl, rfl, hh, ?_, ?_⟩
  · rw [List.length_append, List.length_singleton, Nat.add_sub_cancel, List.getElem?_append_right (Nat.le_refl _), Nat.sub_self]; rfl
  · rw [List.dropLast_concat]
    obtain ⟨p, v1, v2, g1, g2, g3, g4⟩ := rw_
    have S' := upd' ws pw
    exact ⟨p, [v1, v2], g1, sqT_ext S'.sub g2, rfl, v1, [v2], rfl, v2, [], rfl, rfl, f.nx ((S'.set (s := .vl s x) g3).set (s := .vl t y) g4) h⟩⟩
/-- sorted lists of ways, of pairs -/
theorem key_way {K : Fg} : ∀ M v (x : List Int), (tTup tI).rep K M v x → ∃ t, v = V.ref t ∧ SqT K M t (x.map V.int) := fun M v x h => by
  obtain ⟨a, vs, h1, h2, h3⟩ := h
  rw [paired_int h3] at h2
  exact ⟨a, h1, h2⟩
theorem key_pair {K : Fg} : ∀ M v (x : Int × Int), (tP2 tI tI).rep K M v x → ∃ t, v = V.ref t ∧ SqT K M t ([x.1, x.2].map V.int) := fun M v x h => by
  obtain ⟨a, v1, v2, h1, h2, h3, h4⟩ := h
  rw [show v1 = V.int x.1 from h3, show v2 = V.int x.2 from h4] at h2
  exact ⟨a, h1, h2⟩
end
end TL

namespace TL
open PySem PySem.Spec PyProof.Rows L2
section
variable {ι α : Type} {K : Fg} {ar : ι → List Sl} {pre : ι → Prop} {t : Ty α}
/-- a new list may be taken as a list that stays -/
theorem spN_G {out : ι → List α} : ∀ vs H Q E, spG K ar pre (tLst t) out vs H Q E → spN K ar pre t (fun i y => y = out i) vs H Q E := fun vs H Q E ⟨i, M, m, r, hp, q⟩ =>
  ⟨i, M, m, r, hp, fun y e p M' H' us n hp0 mp hh pr => q (.ref p) (upd M' p (.lst us)) H' ⟨n.ex, n.vx.trans (same_new mp), fun b o q => by
    by_cases z : b = p
    · subst z; rw [upd_same] at q; cases q; exact hh
    · rw [upd_ne z] at q; exact n.sub b o q, fun b n1 n2 => by
    rw [upd_ne (fun z => n2 (by rw [z]; exact hp0))]; exact n.fr b n1 n2⟩ ⟨p, us, rfl, upd_same, by rw [← e]; exact paired_imp (fun _ _ q => t.ext (same_new mp) q) pr⟩⟩
theorem Fn.imp {P : Program} {w : World} {mg : Str → Option Value} {base : Heap} {CX : CXT} {k : Nat} {n : Str} {ps : List Str} {sp sp' : Sp} (C : Fn P w K mg base CX k n ps sp) (h : ∀ vs H Q E, sp' vs H Q E → sp vs H Q E) : Fn P w K mg base CX k n ps sp' := by
  obtain ⟨f, fd, h1, h2, h3, F⟩ := C.ex
  exact ⟨f, fd, h1, h2, h3, F.imp h⟩
end
theorem none_isO {K : Fg} {M : Hp} {v : V} {x : Option Int} (r : (tO tI).rep K M v x) : decide (v = V.non) = decide (x = none) := by
  cases x with
  | none => have : v = V.non := r; rw [this]; rfl
  | some y => have : v = V.int y := r; rw [this]; rfl
end TL

namespace TL
open PySem PySem.Spec PyProof.Rows L2
/-! ### exceptions: classes of the program with an __init__ that stores fields -/
structure XCls (K : Fg) (C : Addr) : Prop where
  ox : OexC K C
  xf : XfC K C
  ha : PySem.W.findIn K (.ref C) "__class__" = some (some (.builtin "object.__class__"))
  hn : PySem.W.specialIn K (.builtin "object.__class__") "__get__" = some (some (.builtin "getset_descriptor.__get__"))
  ht : PySem.W.takesIn K (.builtin "object.__class__") = some true
  hm : PySem.W.mroIn K C (.type "object") = some true
theorem XCls.cl {K : Fg} {C : Addr} (c : XCls K C) : (PySem.W.clsIn K C).isSome = true := by
  obtain ⟨nm, q, N, bs, bm, sn, sub, ab, col, dd, k0, k1, k2, k3, k5, hC, _⟩ := c.ox.cls
  unfold PySem.W.clsIn; rw [hC]; rfl
theorem XCls.kitx {K : Fg} {C x : Addr} {ox : Obj} {od : Option Obj} (c : XCls K C) : PySem.W.KitX K (.ref x) (.ref C) (fun h => PySem.W.InstAt h x ox C od) :=
  PySem.W.kitx_exc c.cl c.xf.ga c.xf.gg c.xf.exC c.ha c.hn c.ht c.hm
/-- the promise of such an __init__ -/
def spXI {ι : Type} (K : Fg) (C : Addr) (ar : ι → List Sl) (pre : ι → Prop) (fs : ι → List (Str × Cl)) : Sp := fun vs H Q _ =>
  ∃ (i : ι) (a : Addr) (ws : List V) (M : Hp), vs = .ref a :: ws ∧ H a = some (exo a C none) ∧ M a = none ∧ Same M H ∧ Reps K M ws (ar i) ∧ pre i ∧
    ∀ d us, H d = none → d ≠ a → FReps K M us (fs i) → Q .non (upd (upd H d (exd d us)) a (exo a C (some d)))
section
variable {P : Program} {w : World} {K : Fg} {mg : Str → Option Value} {base : Heap} {ι α β : Type}
/-- def __init__(self, x): self.f = x -/
theorem init1 {t : Ty α} {x fn qual : Str} {st : Stmt} {f C : Addr} {fd : FuncData} {p1 p2 p3 pos : Pos} (F : Fun K "__init__" qual st f fd) (S : FnScope ["self", x] ["self", x] (defScope st)) (hb : defBody st = [.Assign [.Attribute (.Name "self" p1) fn p2] (.Name x p3) pos])
    (T : OexC K C) (hno : PySem.W.findIn K (.ref C) fn = some none) (hd : (x == ("__debug__" : Str)) = false) (hcd : (x == ("__classdict__" : Str)) = false)
    (hs : ∀ env : Env, swapsWith (.Name x p3) (some (.Attribute (.Name "self" p1) fn p2)) pos.line env = pure false) : FnOk P w K mg base CX0 1 f fd ["self", x] (spXI K C (fun i : α => [.vl t i]) (fun _ => True) (fun i => [(fn, ⟨t, i⟩)])) := by
  refine F.ok S (fun vs H Q E h => ?_) (fun cdv A outer s H vs Q E hr h => ⟨_, by rw [hb]; exact pss_one (ps_ost (pe_var (i := 0) rfl (by rcases S.par "self" (by simp) with q | q; exact .inl q; exact .inr (.inl q)) (by decide) (by decide)) (pe_var (i := 1) rfl (by rcases S.par x (by simp) with q | q; exact .inl q; exact .inr (.inl q)) hd hcd) (hs _)), ?_⟩)
  · obtain ⟨i, a, ws, M, rfl, _, _, _, r, _⟩ := h
    have := reps_len r
    simp at this ⊢; omega
  · obtain ⟨i, a, ws, M, rfl, ha, ma, m, r, _, q⟩ := h
    obtain ⟨v, rfl, rv⟩ := reps1 r
    exact ⟨v, rfl, .ref a, rfl, a, C, rfl, T, hno, .inl ⟨ha, fun dx hdx ne => q dx [(fn, v)] hdx ne (.cons rv .nil)⟩⟩
/-- def __init__(self, x, y): self.f = x; self.g = y -/
theorem init2 {t : Ty α} {u : Ty β} {x y fn gn qual : Str} {st : Stmt} {f C : Addr} {fd : FuncData} {p1 p2 p3 pos r1 r2 r3 ros : Pos} (F : Fun K "__init__" qual st f fd) (S : FnScope ["self", x, y] ["self", x, y] (defScope st))
    (hb : defBody st = [.Assign [.Attribute (.Name "self" p1) fn p2] (.Name x p3) pos, .Assign [.Attribute (.Name "self" r1) gn r2] (.Name y r3) ros])
    (T : OexC K C) (hno : PySem.W.findIn K (.ref C) fn = some none) (hno2 : PySem.W.findIn K (.ref C) gn = some none) (hd : (x == ("__debug__" : Str)) = false) (hcd : (x == ("__classdict__" : Str)) = false) (hd2 : (y == ("__debug__" : Str)) = false) (hcd2 : (y == ("__classdict__" : Str)) = false)
    (hs : ∀ env : Env, swapsWith (.Name x p3) (some (.Attribute (.Name "self" p1) fn p2)) pos.line env = pure false) (hs2 : ∀ env : Env, swapsWith (.Name y r3) (some (.Attribute (.Name "self" r1) gn r2)) ros.line env = pure false) : FnOk P w K mg base CX0 1 f fd ["self", x, y] (spXI K C (fun i : α × β => [.vl t i.1, .vl u i.2]) (fun _ => True) (fun i => [(gn, ⟨u, i.2⟩), (fn, ⟨t, i.1⟩)])) := by
  have vs : ∀ z ∈ (["self", x, y] : List Str), Vis (defScope st) z := fun z hz => by rcases S.par z hz with q | q; exact .inl q; exact .inr (.inl q)
  refine F.ok S (fun vs H Q E h => ?_) (fun cdv A outer s H vs0 Q E hr h => ⟨_, by rw [hb]; exact pss_cons (ps_ost (pe_var (i := 0) rfl (vs _ (by simp)) (by decide) (by decide)) (pe_var (i := 1) rfl (vs _ (by simp)) hd hcd) (hs _)) (pss_one (ps_ost (pe_var (i := 0) rfl (vs _ (by simp)) (by decide) (by decide)) (pe_var (i := 2) rfl (vs _ (by simp)) hd2 hcd2) (hs2 _))), ?_⟩)
  · obtain ⟨i, a, ws, M, rfl, _, _, _, r, _⟩ := h
    have := reps_len r
    simp at this ⊢; omega
  · obtain ⟨i, a, ws, M, rfl, ha, ma, m, r, _, q⟩ := h
    obtain ⟨v, v2, rfl, rv, rv2⟩ := reps2 r
    refine ⟨v, rfl, .ref a, rfl, a, C, rfl, T, hno, .inl ⟨ha, fun dx hdx ne => ?_⟩⟩
    refine ⟨v2, rfl, .ref a, rfl, a, C, rfl, T, hno2, .inr ⟨dx, [(fn, v)], upd_same, by rw [upd_ne ne]; exact upd_same, by simp, ?_⟩⟩
    have e : upd (upd (upd H dx (exd dx [(fn, v)])) a (exo a C (some dx))) dx (exd dx [(gn, v2), (fn, v)]) = upd (upd H dx (exd dx [(gn, v2), (fn, v)])) a (exo a C (some dx)) := by
      funext b
      by_cases h1 : b = dx
      · subst h1; rw [upd_same, upd_ne ne, upd_same]
      · rw [upd_ne h1]
        by_cases h2 : b = a
        · subst h2; rw [upd_same, upd_same]
        · rw [upd_ne h2, upd_ne h2, upd_ne h1, upd_ne h1]
    rw [e]
    exact q dx [(gn, v2), (fn, v)] hdx ne (.cons rv2 (.cons rv .nil))
end
/-! a new exception of an own class, as the layer with contexts (L2N) wants it -/
section
variable {X : Cx} {C fI : Addr} {k : Nat} {fd : FuncData} {ps : List Str} {sp : Sp} {pins : List (Addr × Obj)} {τ : L2.St}
/-- the call of the class, its arguments given -/
theorem made_call (T : OexC X.K C) (hi : PySem.W.findIn X.K (.ref C) "__init__" = some (some (.ref fI))) (ti : PySem.W.typeIn X.K (.ref fI) = some (.type "function")) (F1 : FnOk X.prog X.w X.K X.mg X.base CX0 k fI fd ps sp) (hr : Room (k + 1) X.A) (hb : Binds X.K fd ps [])
    {s1 : Shared} {H1 : Hp} {us : List Value} {vs : List V} {Q : XK} (J : Inv X pins τ H1 s1) (r : Vals vs us) (hz : vs.length ≤ 1000)
    (hq : ∀ a, H1 a = none → sp (.ref a :: vs) (upd H1 a (exo a C none)) (fun v H2 => v = .non ∧ ∃ (d : Addr) (fs : List (Str × V)), H2 a = some (exo a C (some d)) ∧ H2 d = some (exd d fs) ∧ H1 d = none ∧ Q (.ref C) (some d) (upd (del H2 a) d (.xd fs))) (fun _ _ _ => False)) :
    wpAny (model X.prog X.w) X.A (call (.ref C) us) (L2N.MkP X pins τ Q) X.xe s1 := by
  rcases T.cls with ⟨_, _, _, _, mro, _, _, _, _, _, _, _, _, _, _, look, good⟩
  rcases s1 with ⟨hp, gn, dw, tk, osx⟩
  let a : Addr := hp.objs.size + 1
  let h' : Heap := (hp.push (PySem.W.kdv_tup us)).push (PySem.HandSPX.excO C hp.objs.size)
  have over : hp.objs.size ≤ a := Nat.le_succ _
  have stays : ∀ b o, hp.get? b = some o → h'.get? b = some o := fun b o z => Heap.get?_push_of_some _ (Heap.get?_push_of_some _ z)
  have here : ((hp.push (PySem.W.kdv_tup us)).push (PySem.HandSPX.excO C hp.objs.size)).get? (hp.objs.size + 1) = some (PySem.HandSPX.excO C hp.objs.size) := by heap_get
  have I2 : Inv X pins τ (upd H1 a (exo a C none)) ⟨h', gn, dw, tk, osx⟩ := J.laid (t' := tk) (o := exo a C none) stays over (exo_ok here)
  have prom := hq a (J.hok.fresh over)
  have lens : (Value.ref a :: us).length = ps.length := (Paired.length (Paired.cons (F := RelV) (a := V.ref a) (b := Value.ref a) rfl r)).symm.trans (F1.len _ _ _ _ prom)
  have bnd := hb ⟨h', gn, dw, tk, osx⟩ (Value.ref a :: us) I2.kIn (by rw [List.append_nil]; exact lens)
  rw [List.append_nil] at bnd
  refine wpAny_call (PySem.HandSPX.call_own F.excBase_ValueError (fun Y => PySem.HandSPX.refsVE_contains Y mro good) (J.kIn _ _ look) (PySem.W.looks_findIn J.kIn hi) (PySem.W.bind_fn J.kIn · ti) (by rw [← Paired.length r, sizeLine_eq]; omega) ?_)
  refine codeAny_mono (F1.run _ X.stack _ _ ⟨Value.ref a :: us, []⟩ _ _ _ (fun _ _ _ => False) (hr.make C us []) (I2.env0.make C us []) bnd (Paired.cons (F := RelV) (a := V.ref a) (b := Value.ref a) rfl r) prom) fun res s' hres => ?_
  match res, hres with
  | .ok (.ret u), ⟨v, H2, o2, b2, un, ok2, rv, ev, d, fs, ea, ed, hd, q⟩ =>
    subst ev
    rcases s' with ⟨h2, g2, d2, t2, o'⟩
    obtain ⟨_, G, K1, kG, gone, there, free⟩ := mk_end0 (d2 := d2) (t2 := t2) J over stays un ok2 o2 b2 ea ed hd
    exact ⟨rv, a, _, _, ⟨G, g2, d2, t2, o'⟩, _, .ref C, some d, rfl, K1, kG, gone, there, ⟨rfl, rfl, fun _ z => by cases z; rfl⟩, rfl, rfl, free, rfl, b2, raises_own T.exC T.tyC, q⟩
  | .ok .next, z => exact z.elim
  | .ok .brk, z => exact z.elim
  | .ok .cont, z => exact z.elim
  | .error _, z => exact z.elim
theorem pmkN_oex {n : Str} {e : Expr} {es : List Expr} {ta : TA} {p q : Pos} (T : OexC X.K C) (hi : PySem.W.findIn X.K (.ref C) "__init__" = some (some (.ref fI))) (ti : PySem.W.typeIn X.K (.ref fI) = some (.type "function")) (F1 : FnOk X.prog X.w X.K X.mg X.base CX0 k fI fd ps sp) (hr : Room (k + 1) X.A) (hb : Binds X.K fd ps [])
    (gl : Gl X n) (mn : X.mg n = some (.ref C)) (ha : PA X (e :: es) ta) (nd : (n == ("__debug__" : Str)) = false) (st : starEach (e :: es) X.env = (false, eval e X.env) :: starEach es X.env) (pl : (backTo q (starEach es X.env)).any (·.1) = false) :
    L2N.PMk X (.Call (.Name n p) (e :: es) [] q) (tMkO C sp [] ta) := fun pins s τ H Q J h => by
  refine wpAny_Call_Name_kw (ld_glob J gl mn (PySem.W.callWith_K (h₀ := X.base) J.ok.mod.kin T.kC (thn (ha.run q pins s τ H _ J h) ?_) st pl) nd)
  rintro us s1 ⟨vs, H1, J1, r1, hz, q1⟩
  exact ⟨J1.kIn, made_call T hi ti F1 hr hb J1 r1 hz fun a ha => by have := q1 a ha; rw [List.append_nil] at this; exact this⟩
end
/-- such a class as its callers know it -/
structure XMk (P : Program) (w : World) (K : Fg) (mg : Str → Option Value) (base : Heap) (n : Str) (C : Addr) (ps : List Str) (sp : Sp) : Prop where
  ex : ∃ f fd, PySem.W.findIn K (.ref C) "__init__" = some (some (.ref f)) ∧ PySem.W.typeIn K (.ref f) = some (.type "function") ∧ FnOk P w K mg base CX0 1 f fd ps sp ∧ mg n = some (.ref C) ∧ Binds K fd ps []
  xc : XCls K C
/-- what is known of a raised one: its class, its fields -/
def XcIs (K : Fg) (C : Addr) (fs : List (Str × Cl)) : Value → Option Addr → Hp → Prop := fun c d M => c = .ref C ∧ ∃ dd us, d = some dd ∧ M dd = some (.xd us) ∧ FReps K M us fs
section
variable {α β γ ι ρ : Type} {X : Cx} {G : List Sl} {a b c e : Expr} {es rest body : List Stmt} {s : Ty α} {t : Ty β} {u : Ty γ} {x : α} {y : β} {z : γ} {pos : Pos} {k : Nat} {R : Out}
/-- raise C(e, ..) -/
theorem s_raise {P : Program} {w : World} {K : Fg} {mg : Str → Option Value} {base : Heap} {n : Str} {C : Addr} {ps : List Str} {ar : ι → List Sl} {pre : ι → Prop} {fs : ι → List (Str × Cl)} {p q : Pos} {es : List Expr} (M : XMk P w K mg base n C ps (spXI K C ar pre fs)) (hr : Room 2 X.A) (i : ι) (ha : EA X G (e :: es) (ar i)) (hp : pre i)
    (h : ∀ c d M', XcIs K C (fs i) c d M' → R.xc c d M' G) (hz : (ar i).length ≤ 1000 := by first | decide | exact Nat.le_of_ble_eq_true rfl) (hcm : X.calm = true := by rfl) (hg : Gl X n := by rfl) (hdb : (n == ("__debug__" : Str)) = false := by decide) (he : starEach (e :: es) X.env = (false, eval e X.env) :: starEach es X.env := by rfl) (hpl : (backTo q (starEach es X.env)).any (·.1) = false := by rfl)
    (xP : X.prog = P := by rfl) (xw : X.w = w := by rfl) (xK : X.K = K := by rfl) (xm : X.mg = mg := by rfl) (xb : X.base = base := by rfl) : S1 X G (.Raise (some (.Call (.Name n p) (e :: es) [] q)) none pos) R := ⟨fun D E S tk f => by
  subst xP xw xK xm xb
  obtain ⟨fI, fd, h1, h2, F, hm, hb⟩ := M.ex
  refine ⟨_, L2N.ps_raise hcm tk (pmkN_oex M.xc.ox h1 h2 F hr hb hg hm pa_w hdb he hpl), ha.run S _ fun vs M1 H1 n1 r1 => ?_⟩
  refine ⟨?_, fun ad had => ?_⟩
  · rw [reps_len r1]; exact hz
  · refine ⟨i, ad, vs, M1, by rw [List.append_nil], upd_same, same_none n1.sub had, n1.sub.trans (same_new had), r1, hp, fun d us hd ne rf => ?_⟩
    have hd1 : H1 d = none := by rw [upd_ne ne] at hd; exact hd
    refine ⟨rfl, d, us, upd_same, by rw [upd_ne ne, upd_same], hd1, ?_⟩
    have eq : upd (del (upd (upd (upd H1 ad (exo ad C none)) d (exd d us)) ad (exo ad C (some d))) ad) d (.xd us) = upd H1 d (.xd us) := by
      funext b
      by_cases z1 : b = d
      · subst z1; rw [upd_same, upd_same]
      · rw [upd_ne z1, upd_ne z1]
        by_cases z2 : b = ad
        · subst z2; rw [del_same, had]
        · rw [del_ne z2, upd_ne z2, upd_ne z1, upd_ne z2]
    rw [eq]
    have nn : Nx M1 H1 (upd M1 d (.xd us)) (upd H1 d (.xd us)) := Nx.new n1.sub hd1
    exact f.xc (S.next (n1.trans nn)) (h _ _ _ ⟨rfl, d, us, rfl, upd_same, freps_ext nn.vx rf⟩)⟩
end
end TL

namespace TL
open PySem PySem.Spec PyProof.Rows L2
/-! ### try: body, except C as n: suite, further clauses that are never looked at -/
/-- the ends of a suite: the clause's name goes -/
def goneE (i : Nat) (D : Ends) : Ends := { nx := fun τ H => D.nx (τ.set i none) H, rt := D.rt, bk := fun τ H => D.bk (τ.set i none) H, ct := fun τ H => D.ct (τ.set i none) H }
def wFirst (K : Fg) (c : Value) (i : Nat) (ts : Addr → Value → Option Addr → TS) (D : Ends) : WX := fun cls d τ H =>
  PySem.W.exmOne K cls c = some true ∧ ∀ a, H a = none → ts a cls d (goneE i D) (τ.set i (some (.ref a))) H
section
variable {X : Cx} {x n : Str} {c : Value} {i : Nat} {b₀ : Stmt} {suite body : List Stmt} {more : List ExceptHandler} {np hp pos : Pos} {ts : Addr → Value → Option Addr → TS} {tb : WX → TS}
/-- an exception of the body, met by its clause -/
theorem caught_first (hs : X.stack = X.env :: X.outer) (hf : X.env.frame = some X.env.locals) (hN : X.N.Nodup) (hi : X.N[i]? = some n) (loc : X.env.kindOf n = some .local) (hc : Names X x c)
    (hsu : ∀ (a : Addr) (oe : Obj) (cls : Value) (d : Option Addr) (pn : List (Addr × Obj)), L2N.Zn cls d oe → (∃ vs, oe.data = .fields vs) → PSs (X.suite a ((a, oe) :: pn)) (b₀ :: suite) (ts a cls d))
    {pins : List (Addr × Obj)} {D : Ends} {σ₀ : L2.St} {H₀ : Hp} {s₀ : Shared} {xe : Value → Shared → Prop} (I : Inv X pins σ₀ H₀ s₀) {u : Value} {s' : Shared} (air : L2N.XE (X.tr (X.pn ++ pins) xe) (wFirst X.K c i ts D) u s') :
    wpAny (model X.prog X.w) X.A (noteFrame u X.env) (fun _ s₂ => wpAny (model X.prog X.w) X.A (setFlight u none) (fun _ s₃ =>
      wpAny (model X.prog X.w) X.A (handleBy u X.env (.ExceptHandler (some (.Name x np)) (some n) (b₀ :: suite) hp :: more)) (SP X pins D) X.xe s₃) X.xe s₂) X.xe s' := by
  rcases air with ⟨a, B, sI, pn', τ, H, cls, d, rfl, J0, ground, up, sky, free, same, bare, match_, run⟩
  have J : Inv X pins τ H sI := J0.ofTry I.ok
  have frames : X.A.frames = some (X.env :: X.outer) := I.ok.frames.trans (by rw [hs])
  refine L2N.Sky.land L2N.Zn.steady frames hf (by have z := sky; rw [show (X.tr (X.pn ++ pins) xe).stack = X.env :: X.outer from hs] at z; exact z) fun h3 fly up3 => ?_
  have apart : ∀ {h : Heap} {o : Obj} {vs : Array Value}, h.FunFrames B (X.env :: X.outer) → h.get? a = some o → o.data = .fields vs → a ≠ X.env.locals ∧ a ∉ X.fs := fun {h o vs} ff at_ dt => by
    have out : a ∉ frs (X.env :: X.outer) := fun mem => by
      obtain ⟨_, o2, at2, notf⟩ := ff.mem mem
      cases at_.symm.trans at2
      exact notf _ dt
    refine ⟨fun z => out ?_, fun z => out ?_⟩
    · exact List.mem_filterMap.mpr ⟨X.env, List.mem_cons_self, hf.trans (by rw [z])⟩
    · obtain ⟨v, hv, q⟩ := List.mem_filterMap.mp z
      exact List.mem_filterMap.mpr ⟨v, List.mem_cons_of_mem _ hv, q⟩
  obtain ⟨o3, v3, at3, zn3, dt3⟩ := fly.there
  have ap3 := apart fly.2.2.1 at3 dt3
  have L3 : Inv X pins τ H { s' with heap := h3 } := J.landed ground fly.1 (up.trans up3) same bare
  have S3 := L3.suite at3 dt3 free ap3.1 ap3.2
  refine wpAny_handleBy_cons (codeAny_handlers_test ?_) (by intro q; cases q)
  have asks : ∀ {Q E : Value → Shared → Prop}, Q c { s' with heap := h3 } → wpAny (model X.prog X.w) (X.A.mark (some (.ref a))) (eval (.Name x np) X.env) Q E { s' with heap := h3 } := fun {Q E} q => by
    rcases hc with ⟨gl, nd, mm | ⟨mm, bt, nn⟩⟩
    · exact ld_glob (X := X.suite a ((a, o3) :: (X.pn ++ pins))) S3 gl mm q nd
    · exact ld_blt (X := X.suite a ((a, o3) :: (X.pn ++ pins))) S3 gl mm bt q nn nd
  refine asks ((PySem.W.exm_one (M := model X.prog X.w) S3.kIn (fun _ _ _ _ keep q => wpAny_typeOf_ref (keep _ _ at3) (by rw [zn3.1]; exact q)) match_).here (codeAny_handlers_suite_as ?_))
  refine HandSPX.lands_againZ fly fun h4 fly4 up4 => ?_
  obtain ⟨o4, v4, at4, zn4, dt4⟩ := fly4.there
  have ap4 := apart fly4.2.2.1 at4 dt4
  have L4 : Inv X pins τ H { s' with heap := h4 } := J.landed ground fly4.1 ((up.trans up3).trans up4) same bare
  have S4 := L4.suite at4 dt4 free ap4.1 ap4.2
  refine store_ok (X := X.suite a ((a, o4) :: (X.pn ++ pins))) (v := .ref a) S4 hN hi (.inl loc) rfl (fun s5 S5 => ?_) (.inr loc)
  refine wpAny_mono ((hsu a o4 cls d (X.pn ++ pins) zn4 ⟨_, dt4⟩).run [] s5 _ H _ S5 (run a free)) (fun fl s6 after => ?_) fun _ _ z => z.elim
  have leave : ∀ {τ6 : L2.St} {H6 : Hp} {Q : Shared → Prop}, Inv (X.suite a ((a, o4) :: (X.pn ++ pins))) [] τ6 H6 s6 → (∀ s7, Inv X pins (τ6.set i none) H6 s7 → Q s7) → wpAny (model X.prog X.w) X.A (do bindName X.env n .none; unbindBehindTheSuite X.env n hp) (fun _ s7 => Q s7) X.xe s6 :=
    fun K6 q => gone_ok (K6.unsuite I.ok) hN hi loc q
  match fl, after with
  | .next, ⟨_, _, K6, q⟩ => exact leave K6 fun _ K7 => ⟨_, _, K7, q⟩
  | .brk, ⟨_, _, K6, q⟩ => exact leave K6 fun _ K7 => ⟨_, _, K7, q⟩
  | .cont, ⟨_, _, K6, q⟩ => exact leave K6 fun _ K7 => ⟨_, _, K7, q⟩
  | .ret _, ⟨_, _, _, K6, r, q⟩ => exact leave K6 fun _ K7 => ⟨_, _, _, K7, r, q⟩
theorem ps_try_first (hs : X.stack = X.env :: X.outer) (hf : X.env.frame = some X.env.locals) (hN : X.N.Nodup) (hi : X.N[i]? = some n) (loc : X.env.kindOf n = some .local) (hc : Names X x c)
    (hb : ∀ (W : WX) (pn : List (Addr × Obj)) (xe : Value → Shared → Prop), L2N.Takes (X.tr pn xe) W → PassesOwn (model X.prog X.w) X.A X.env xe → PSs (X.tr pn xe) body (tb W))
    (hsu : ∀ (a : Addr) (oe : Obj) (cls : Value) (d : Option Addr) (pn : List (Addr × Obj)), L2N.Zn cls d oe → (∃ vs, oe.data = .fields vs) → PSs (X.suite a ((a, oe) :: pn)) (b₀ :: suite) (ts a cls d)) :
    PS X (.Try body (.ExceptHandler (some (.Name x np)) (some n) (b₀ :: suite) hp :: more) [] [] pos) (fun D τ H => tb (wFirst X.K c i ts D) D τ H) := ⟨fun pins s τ H D I h => by
  refine wpAny_Try_except (wpAny_mono ((hb (wFirst X.K c i ts D) (X.pn ++ pins) _ (fun u s' air => caught_first (more := more) (np := np) (hp := hp) hs hf hN hi loc hc hsu I air) PassesOwn.looking).run [] s τ H D (I.toTry _) h) (fun fl s1 after => ?_) fun _ _ z => z)
  match fl, after with
  | .next, ⟨_, _, K1, q⟩ => exact wpAny_execs_nil ⟨_, _, K1.ofTry I.ok, q⟩
  | .brk, ⟨_, _, K1, q⟩ => exact ⟨_, _, K1.ofTry I.ok, q⟩
  | .cont, ⟨_, _, K1, q⟩ => exact ⟨_, _, K1.ofTry I.ok, q⟩
  | .ret _, ⟨_, _, _, K1, r, q⟩ => exact ⟨_, _, _, K1.ofTry I.ok, r, q⟩⟩
end
/-- the exception that a suite holds: at a, its fields in the dict at dd -/
def tExc (a dd : Addr) (fs : List (Str × Cl)) : Ty Unit := ⟨fun K M v _ => v = .ref a ∧ ∃ us, M dd = some (.xd us) ∧ FReps K M us fs, fun e ⟨h1, us, h2, h3⟩ => ⟨h1, us, e _ _ h2, freps_ext e h3⟩⟩
/-- the exception p, in the context X -/
structure Held (X : Cx) (C : Addr) (p : Addr × Obj) (dd : Addr) : Prop where
  mem : p ∈ X.pn
  zn : L2N.Zn (.ref C) (some dd) p.2
  fl : ∃ vs, p.2.data = .fields vs
section
variable {α β γ ι ρ : Type} {X : Cx} {G : List Sl} {a b c e : Expr} {rest body suite : List Stmt} {b₀ : Stmt} {s : Ty α} {t : Ty β} {u : Ty γ} {x : α} {y : β} {z : γ} {pos : Pos} {R : Out}
theorem s_try (i : Nat) {n x : Str} {C D : Addr} {more : List ExceptHandler} {np hp : Pos} {fs : ι → List (Str × Cl)} (xcb : ι → List Sl → Prop)
    (hb : ∀ pn xe, B (X.tr pn xe) G body { R with xc := fun c d M G' => ∃ j, XcIs X.K C (fs j) c d M ∧ xcb j G' })
    (hsu : ∀ j G' (p : Addr × Obj) dd pn, xcb j G' → Held (X.suite p.1 (p :: pn)) C p dd → L2H.Hot1 (X.suite p.1 (p :: pn)).A p → B (X.suite p.1 (p :: pn)) (G'.set i (.vl (tExc p.1 dd (fs j)) ())) (b₀ :: suite) { nx := fun G2 => R.nx (G2.set i .un), rt := R.rt, bk := fun G2 => R.bk (G2.set i .un), ct := fun G2 => R.ct (G2.set i .un) })
    (hm : X.mg x = some (.ref D)) (hx : PySem.W.exmOne X.K (.ref C) (.ref D) = some true) (hN : X.N.Nodup)
    (hs : X.stack = X.env :: X.outer := by rfl) (hf : X.env.frame = some X.env.locals := by rfl) (hi : X.N[i]? = some n := by rfl) (loc : X.env.kindOf n = some .local := by rfl) (hg : Gl X x := by rfl) (hnd : (x == ("__debug__" : Str)) = false := by decide) :
    S1 X G (.Try body (.ExceptHandler (some (.Name x np)) (some n) (b₀ :: suite) hp :: more) [] [] pos) R := ⟨fun {M0 H0 M H σ} D' E S tk f => by
  refine ⟨_, ps_try_first (c := .ref D) (more := more) (tb := fun W D τ H => ∀ pn xe, L2N.Takes (X.tr pn xe) W → PassesOwn (model X.prog X.w) X.A X.env xe → wS (X.tr pn xe) body D τ H)
    (ts := fun a cls d D τ H => ∀ oe pn, L2N.Zn cls d oe → (∃ vs, oe.data = .fields vs) → wS (X.suite a ((a, oe) :: pn)) (b₀ :: suite) D τ H)
    hs hf hN hi loc ⟨hg, hnd, .inl hm⟩ (fun W pn xe t1 t2 => ⟨fun ps sh τ Hh Dd J h => pss_w.run ps sh τ Hh Dd J (h pn xe t1 t2)⟩) (fun a oe cls d pn z1 z2 => ⟨fun ps sh τ Hh Dd J h => pss_w.run ps sh τ Hh Dd J (h oe pn z1 z2)⟩), fun pn xe t1 t2 => ?_⟩
  refine (hb pn xe).run D' _ S t1 ⟨fun S' h => f.nx S' h, fun n2 h => f.rt n2 h, fun S' h => f.bk S' h, fun S' h => f.ct S' h, fun {M1 H1 τ G1 c d} S1' h => ?_⟩
  obtain ⟨j, ⟨rfl, dd, us, rfl, hd, fr⟩, hj⟩ := h
  refine ⟨hx, fun a ha oe pn2 z1 z2 => ?_⟩
  have S2 := S1'.set (i := i) (s := .vl (tExc a dd (fs j)) ()) (v := .ref a) ⟨rfl, us, hd, fr⟩
  obtain ⟨vs, dv⟩ := z2
  refine (hsu j G1 (a, oe) dd pn2 hj ⟨List.mem_cons_self, z1, vs, dv⟩ ⟨rfl, vs, dv, z1.2.2 vs dv⟩).run _ (fun _ _ _ _ => False) S2 takes_false ⟨fun S3 h => ?_, fun n2 h => f.rt n2 h, fun S3 h => ?_, fun S3 h => ?_, fun _ h => h.elim⟩
  · exact f.nx S3.drop h
  · exact f.bk S3.drop h
  · exact f.ct S3.drop h⟩
/-- isinstance(e, c) of the exception -/
def rIsH (K : Fg) (C a dd : Addr) : List V → Hp → VK → Prop := fun xs H Q => ∃ (c : V) (cv : Value) (d : Bool) (us : List (Str × V)), xs = [.ref a, c] ∧ (∀ u, RelV c u → u = cv) ∧ PySem.W.kitOne K (.ref C) cv = some d ∧ H dd = some (.xd us) ∧ Q (.bl d) H
theorem inst_held {C a dd : Addr} {oe : Obj} {pins : List (Addr × Obj)} {σ : L2.St} {H : Hp} {sh : Shared} {us : List (Str × V)} (hp : (a, oe) ∈ X.pn) (hz : L2N.Zn (.ref C) (some dd) oe) (hf : ∃ vs, oe.data = .fields vs) (I : Inv X pins σ H sh) (hd : H dd = some (.xd us)) :
    ∃ od, PySem.W.InstAt sh.heap a oe C (some od) ∧ ∃ mA : Str → Option Value, (∀ f, RelO (us.lookup f) (mA f)) ∧ ∀ name, PySem.W.lookIn name od = some (mA name) := by
  obtain ⟨vs, dv⟩ := hf
  have held := (I.pin (a, oe) (List.mem_append_left _ hp)).1
  have ok : ObjOk X.prog X.w H sh.heap dd (.xd us) := I.hok dd _ hd
  obtain ⟨mA, n1, rel⟩ := ok
  obtain ⟨od, at_, look⟩ := lookIn_ns n1
  exact ⟨od, ⟨held, hz.1, by unfold PySem.W.notCls; rw [dv], by rw [hz.2.1]; exact at_⟩, mA, rel, look⟩
theorem call_isH {C dd : Addr} {p : Addr × Obj} (T : XCls X.K C) (h : Held X C p dd) : CallR X (.builtin "isinstance") (rIsH X.K C p.1 dd) := fun pins sh σ H xs us Q I r q => by
  obtain ⟨cv, cw, d, fl, rfl, det, ans, hd, q⟩ := q
  obtain ⟨A1, oe⟩ := p
  obtain ⟨hp, hz, hf⟩ := h
  obtain ⟨w1, w2, rfl, r1, r2⟩ := vals2 r
  obtain rfl : w1 = Value.ref A1 := r1
  obtain rfl := det _ r2
  obtain ⟨od, inst, _⟩ := inst_held hp hz hf I hd
  exact PySem.W.kia_one T.kitx I.kIn inst ans (fun z => nomatch z) fun tk => ⟨.bl d, H, I.kept (t' := tk) fun _ _ z => z, rfl, q⟩
theorem e_isH {C dd : Addr} {hp : Addr × Obj} {fs : List (Str × Cl)} {p : Pos} {cv : V} {cw : Value} {d : Bool} (T : XCls X.K C) (h : Held X C hp dd) (hm : X.mg "isinstance" = none) (ha : E X G a (tExc hp.1 dd fs) ()) (hb : E X G b tC cv) (hcv : ∀ u, RelV cv u → u = cw) (hk : PySem.W.kitOne X.K (.ref C) cw = some d) (hg : Gl X "isinstance" := by rfl)
    (he : starEach [a, b] X.env = (false, eval a X.env) :: starEach [b] X.env := by rfl) (he2 : starEach [b] X.env = (false, eval b X.env) :: starEach [] X.env := by rfl) (hpl : (backTo pos (starEach [b] X.env)).any (·.1) = false := by rfl) : E X G (.Call (.Name "isinstance" p) [a, b] [] pos) tB d :=
  e_cb (call_isH T h) (ea_cons ha (ea_cons hb ea_nil he2) he) hm (fun M H vs Q m r k => by
    obtain ⟨v, w, rfl, e1, e2⟩ := reps2 r
    obtain ⟨rfl, us, hd, _⟩ := e1
    obtain rfl : w = cv := e2
    exact ⟨_, cw, d, us, rfl, hcv, hk, m _ _ hd, k _ M H (Nx.refl m) rfl⟩) (by decide +kernel) hg (by decide) (by decide) he hpl
theorem rel_ref {C : Addr} : ∀ u, RelV (.ref C) u → u = Value.ref C := fun _ h => h
theorem rel_ty {n : String} : ∀ u, RelV (.ty n) u → u = Value.type n := fun _ h => h
/-- e.f -/
def tXh (C a dd : Addr) (f : Str) (te : TE) : TE := fun σ H Q => te σ H fun x H1 => x = .ref a ∧ ∃ (us : List (Str × V)) (v : V), H1 dd = some (.xd us) ∧ us.lookup f = some v ∧ Q v H1
theorem pe_xh {C dd : Addr} {p : Addr × Obj} {e : Expr} {te : TE} {n : Str} (T : XCls X.K C) (hno : PySem.W.findIn X.K (.ref C) n = some none) (h : Held X C p dd) (he : PE X e te) (hb : attributeBase e n X.env (eval e X.env) = eval e X.env) : PE X (.Attribute e n pos) (tXh C p.1 dd n te) := ⟨fun pins sh σ H Q I q => by
  obtain ⟨a, oe⟩ := p
  obtain ⟨hp, hz, hf⟩ := h
  refine attr_of hb (thn (he.run pins sh σ H _ I q) ?_)
  rintro w s1 ⟨x, H1, I1, rx, rfl, us, v, hd, l, q1⟩
  obtain rfl : w = Value.ref a := rx
  obtain ⟨od, inst, mA, rel, look⟩ := inst_held hp hz hf I1 hd
  obtain ⟨w2, e2, r2⟩ := RelO.some_of (v := v) (o := mA n) (by rw [← l]; exact rel n)
  exact HandSPX.exc_get I1.kIn inst T.xf.ga T.xf.gg T.xf.exC (PySem.W.findObj_own T.xf.hdC hno rfl (by rw [look, e2])) (handed_of r2) ⟨v, H1, I1.tok _, r2, q1⟩⟩
theorem e_xh {C dd : Addr} {p : Addr × Obj} {fs : List (Str × Cl)} {nm : Str} {cl : Cl} (T : XCls X.K C) (hno : PySem.W.findIn X.K (.ref C) nm = some none) (h : Held X C p dd) (he : E X G e (tExc p.1 dd fs) ()) (hl : fs.lookup nm = some cl) (hb : attributeBase e nm X.env (eval e X.env) = eval e X.env := by rfl) : E X G (.Attribute e nm pos) cl.t cl.x := ⟨fun S Q k =>
  ⟨_, pe_xh T hno h pe_w hb, he.run S _ fun v M1 H1 n1 r1 => by
    obtain ⟨rfl, us, hd, fr⟩ := r1
    obtain ⟨w, g1, g2⟩ := freps_lookup fr hl
    exact ⟨rfl, us, w, n1.sub _ _ hd, g1, k w M1 H1 n1 g2⟩⟩⟩
end
end TL

namespace TL
open PySem PySem.Spec PyProof.Rows L2
/-! ### expressions that may raise -/
structure ER {α : Type} (X : Cx) (G : List Sl) (e : Expr) (t : Ty α) (P : α → Prop) (xc : Value → Option Addr → Hp → Prop) : Prop where
  run : ∀ {M0 H0 M H : Hp} {σ : L2.St} (W : WX), St X.K M0 H0 M H σ G → L2N.Takes X W → ∀ (Q : VK), (∀ y, P y → ∀ v M' H', Nx M H M' H' → t.rep X.K M' v y → Q v H') → (∀ c d M' H', Nx M H M' H' → xc c d M' → W c d σ H') → wE X e σ H Q
/-- the promise of a def that answers or raises -/
abbrev spX {ι ρ : Type} (K : Fg) (ar : ι → List Sl) (pre : ι → Prop) (t : Ty ρ) (post : ι → ρ → Prop) (xc : ι → Value → Option Addr → Hp → Prop) : Sp := spR K ar pre (fun i M v => ∃ y, post i y ∧ t.rep K M v y) xc
section
variable {α β γ ι ρ : Type} {X : Cx} {G : List Sl} {a b c e : Expr} {es : List Expr} {rest body suite : List Stmt} {s : Ty α} {t : Ty β} {u : Ty γ} {x : α} {y : β} {z : γ} {pos : Pos} {R : Out} {k : Nat} {P : α → Prop} {xc : Value → Option Addr → Hp → Prop}
theorem E.toR (h : E X G e s x) (p : P x) : ER X G e s P xc := ⟨fun W S _ Q k _ => h.run S Q fun v M' H' n r => k x p v M' H' n r⟩
theorem er_call {P : Program} {w : World} {K : Fg} {mg : Str → Option Value} {base : Heap} {n : Str} {ps : List Str} {ar : ι → List Sl} {pre : ι → Prop} {tr : Ty ρ} {post : ι → ρ → Prop} {xc : ι → Value → Option Addr → Hp → Prop} {p : Pos} (C : Fn P w K mg base (L2N.CX P w) k n ps (spX K ar pre tr post xc)) (hr : Room k X.A) (i : ι) (ha : EA X G (e :: es) (ar i)) (hp : pre i)
    (hg : Gl X n := by rfl) (hdb : (n == ("__debug__" : Str)) = false := by decide) (he : starEach (e :: es) X.env = (false, eval e X.env) :: starEach es X.env := by rfl) (hpl : (backTo pos (starEach es X.env)).any (·.1) = false := by rfl)
    (xP : X.prog = P := by rfl) (xw : X.w = w := by rfl) (xK : X.K = K := by rfl) (xm : X.mg = mg := by rfl) (xb : X.base = base := by rfl) : ER X G (.Call (.Name n p) (e :: es) [] pos) tr (post i) (xc i) := ⟨fun W S tk Q q qx => by
  subst xP xw xK xm xb
  obtain ⟨f, fd, hm, hk, hb, F⟩ := C.ex
  refine ⟨_, pe_callS (E := WE W) F hr hg hm hk hb (fun σ => L2N.passAt tk σ) pa_w hdb he hpl, ha.run S _ fun vs M1 H1 n1 r1 => ?_⟩
  exact ⟨i, M1, n1.sub, r1, hp, fun v M2 H2 n2 ⟨y, py, r2⟩ => q y py v M2 H2 (n1.trans n2) r2, fun c d M2 H2 n2 h => qx c d M2 H2 (n1.trans n2) h⟩⟩
/-- x = e, e may raise -/
theorem s_setR (k : Nat) {n : Str} {pos' : Pos} (he : ER X G e s P xc) (h : ∀ x, P x → R.nx (G.set k (.vl s x))) (hx : ∀ c d M, xc c d M → R.xc c d M G) (hN : X.N.Nodup) (hi : X.N[k]? = some n := by rfl) (hl : Loc X.env.scope n := by first | exact Or.inl rfl | exact Or.inr rfl)
    (hs : swapsWith e (some (.Name n pos')) pos.line X.env = pure false := by rfl) (hf : X.fn n = true ∨ X.env.scope.names.lookup n = some .local := by first | exact .inl rfl | exact .inr rfl) : S1 X G (.Assign [.Name n pos'] e pos) R := ⟨fun D E S tk f =>
  ⟨_, ps_set hN hi hl pe_w hs hf, he.run E S tk _ (fun y py v M1 H1 n1 r1 => f.nx ((S.next n1).set (s := .vl s y) r1) (h y py)) fun c d M1 H1 n1 q => f.xc (S.next n1) (hx c d M1 q)⟩⟩
theorem s_retR (he : ER X G e s P xc) (h : ∀ y, P y → ∀ M v, s.rep X.K M v y → R.rt M v) (hx : ∀ c d M, xc c d M → R.xc c d M G) : S1 X G (.Return (some e) pos) R := ⟨fun D E S tk f =>
  ⟨_, ps_ret pe_w, he.run E S tk _ (fun y py v M1 H1 n1 r1 => f.rt (S.nx.trans n1) (h y py M1 v r1)) fun c d M1 H1 n1 q => f.xc (S.next n1) (hx c d M1 q)⟩⟩
/-- a list of two of different types -/
def tL2 {α β : Type} (s : Ty α) (t : Ty β) : Ty (α × β) := ⟨fun K M v x => ∃ a v1 v2, v = .ref a ∧ M a = some (.lst [v1, v2]) ∧ s.rep K M v1 x.1 ∧ t.rep K M v2 x.2,
  fun e ⟨a, v1, v2, h1, h2, h3, h4⟩ => ⟨a, v1, v2, h1, e _ _ h2, s.ext e h3, t.ext e h4⟩⟩
theorem lay2 {K : Fg} {M0 H0 M H : Hp} {p : Addr} {v1 v2 : V} {x1 : α} {x2 : β} (n : Nx M0 H0 M H) (hp : H p = none) (r1 : s.rep K M v1 x1) (r2 : t.rep K M v2 x2) : Nx M0 H0 (upd M p (.lst [v1, v2])) (upd H p (.lst [v1, v2])) ∧ (tL2 s t).rep K (upd M p (.lst [v1, v2])) (.ref p) (x1, x2) :=
  ⟨n.trans (Nx.new n.sub hp), p, v1, v2, rfl, upd_same, s.ext (same_new (same_none n.sub hp)) r1, t.ext (same_new (same_none n.sub hp)) r2⟩
theorem e_L2 (ha : E X G a s x) (hb : E X G b t y) (hs : starEach [a, b] X.env = (false, eval a X.env) :: starEach [b] X.env := by rfl) (hs2 : starEach [b] X.env = (false, eval b X.env) :: starEach [] X.env := by rfl) : E X G (.List [a, b] pos) (tL2 s t) (x, y) := ⟨fun S Q k =>
  ⟨_, pe_lst (pa_cons pe_w (pa_cons pe_w pa_nil hs2) hs), ha.run S _ fun v M1 H1 n1 r1 => hb.run (S.next n1) _ fun w M2 H2 n2 r2 => ⟨by show 2 ≤ sizeLine; decide, fun p hp => by
    obtain ⟨q1, q2⟩ := lay2 (n1.trans n2) hp (s.ext n2.vx r1) r2
    exact k _ _ _ q1 q2⟩⟩⟩
theorem er_L2 (ha : ER X G a s P xc) (hb : E X G b t y) (hs : starEach [a, b] X.env = (false, eval a X.env) :: starEach [b] X.env := by rfl) (hs2 : starEach [b] X.env = (false, eval b X.env) :: starEach [] X.env := by rfl) : ER X G (.List [a, b] pos) (tL2 s t) (fun z => P z.1 ∧ z.2 = y) xc := ⟨fun W S tk Q k kx =>
  ⟨_, pe_lst (pa_cons pe_w (pa_cons pe_w pa_nil hs2) hs), ha.run W S tk _ (fun x px v M1 H1 n1 r1 => hb.run (S.next n1) _ fun w M2 H2 n2 r2 => ⟨by show 2 ≤ sizeLine; decide, fun p hp => by
    obtain ⟨q1, q2⟩ := lay2 (n1.trans n2) hp (s.ext n2.vx r1) r2
    exact k (x, y) ⟨px, rfl⟩ _ _ _ q1 q2⟩) fun c d M' H' n h => kx c d M' H' n h⟩⟩
theorem e_L2a {z : α × β} (ha : E X G a (tL2 s t) z) (hb : E X G b tI 0) (hs : PlainIx b := by exact fun _ _ => rfl) : E X G (.Subscript a b pos) s z.1 := ⟨fun S Q k =>
  ⟨_, pe_ix ix_list pe_w pe_w hs, ha.run S _ fun v M1 H1 n1 r1 => hb.run (S.next n1) _ fun w M2 H2 n2 r2 => by
    obtain ⟨p, v1, v2, e1, e2, e3, e4⟩ := r1
    exact ⟨p, [v1, v2], 0, v1, e1, r2, SqL.of (n2.sub _ _ (n2.vx _ _ e2)), rfl, k v1 M2 H2 (n1.trans n2) (s.ext n2.vx e3)⟩⟩⟩
theorem e_L2b {z : α × β} (ha : E X G a (tL2 s t) z) (hb : E X G b tI 1) (hs : PlainIx b := by exact fun _ _ => rfl) : E X G (.Subscript a b pos) t z.2 := ⟨fun S Q k =>
  ⟨_, pe_ix ix_list pe_w pe_w hs, ha.run S _ fun v M1 H1 n1 r1 => hb.run (S.next n1) _ fun w M2 H2 n2 r2 => by
    obtain ⟨p, v1, v2, e1, e2, e3, e4⟩ := r1
    exact ⟨p, [v1, v2], 1, v2, e1, r2, SqL.of (n2.sub _ _ (n2.vx _ _ e2)), rfl, k v2 M2 H2 (n1.trans n2) (t.ext n2.vx e4)⟩⟩⟩
end
/-! ### defs called in a suite: the promise may speak of the exception that is handled -/
structure FnHP (P : Program) (w : World) (K : Fg) (mg : Str → Option Value) (base : Heap) (k : Nat) (f : Addr) (fd : FuncData) (ps : List Str) (sp : Addr × Obj → Sp) : Prop where
  len : ∀ p vs H Q E, sp p vs H Q E → vs.length = ps.length
  go : ∀ (A : Around) (outer : List Env) (s : Shared) (H : Hp) (args : Args) (us : List Value) (vs : List V) (Q : VK) (E : XK) (p : Addr × Obj), L2H.RoomH k A → L2H.Hot1 A p → L2H.PinOk outer H s p → Env0 P w K mg base A outer s H → BindsTo s fd args (ps.zip us) → Vals vs us → sp p vs H Q E →
    codeAny (model P w) A (.call (.ref f) args) (CR CX0 outer P w H s Q E) s
section
variable {P : Program} {w : World} {K : Fg} {mg : Str → Option Value} {base : Heap} {ι ρ : Type}
/-- a def's text keeps such a promise -/
theorem okHP {x qual : Str} {st : Stmt} {f : Addr} {fd : FuncData} {N ps : List Str} {k : Nat} {sp : Addr × Obj → Sp} (F : Fun K x qual st f fd) (S : FnScope N ps (defScope st)) (len : ∀ p vs H Q E, sp p vs H Q E → vs.length = ps.length)
    (body : ∀ (cdv : Value) (A : Around) (outer : List Env) (s : Shared) (H : Hp) (vs : List V) (Q : VK) (E : XK) (p : Addr × Obj), L2H.Hot1 A p → L2H.RoomH k (A.deeper (envOfC qual (defScope st) s.heap.objs.size f cdv)) → sp p vs H Q E →
      ∃ t, PSs (L2H.cxH CX0 P w K mg base N qual (defScope st) f cdv A outer s H E p) (defBody st) t ∧ t { nx := fun _ H' => Q .non H', rt := Q } (L2.start N vs) H) : FnHP P w K mg base (k + 1) f fd ps sp := by
  rcases F.ex with ⟨_, _, _, _, _, _, cdv, _, _, rfl, look, code⟩
  refine ⟨len, fun A outer s H args us vs Q E p room hot pin e0 binds rv prom => ?_⟩
  have keep := fun b o (e : base.get? b = some o) => (e0.bs b o e).1
  have KI : K.In s.heap := e0.mod.kin.keeps keep
  have names : ∀ y ∈ ps.zip us, (defScope st).names.lookup y.1 = some .local ∨ ((defScope st).names.lookup y.1 = some .cell ∧ ((cellsFrom (s.heap.objs.size + 1) (defScope st).names []).lookup y.1).isSome = true) := fun y hy =>
    (S.par y.1 (List.of_mem_zip (show (y.1, y.2) ∈ ps.zip us from hy)).1).imp id fun q => ⟨q, PySem.W.cellsFrom_some _ _ _ (.inl q)⟩
  refine codeAny_call_function room.depth (KI _ _ look) rfl S.co S.gen rfl (PySem.W.codeRec_of KI code) (binds _ _ _ _ (wpAny_newFunctionEnv_cells S.kind names fun env he s1 entry => ?_))
  subst he
  obtain ⟨t, ht, hq⟩ := body cdv A outer s H vs Q E p hot (room.deeper _) prom
  refine ⟨(e0.mod.nolimit.keeps keep).keeps entry.toInCall.keep, codeAny_func (wpAny_mono (ht.run [] s1 _ H _ (L2H.inv_startH S pin e0 (len _ _ _ _ _ prom) rv entry) hq) (fun fl s' after => ?_) fun _ _ z => z)⟩
  match fl, after with
  | .ret u, ⟨v, _, H', J, r, q⟩ => exact ⟨v, H', J.os, J.bare, J.base, J.hok, r, q⟩
  | .next, ⟨_, H', J, q⟩ => exact ⟨.non, H', J.os, J.bare, J.base, J.hok, rfl, q⟩
  | .brk, ⟨_, _, _, q⟩ => exact q.elim
  | .cont, ⟨_, _, _, q⟩ => exact q.elim
theorem fn_okHP {x qual : Str} {st : Stmt} {f : Addr} {fd : FuncData} {N ps : List Str} {k : Nat} {ar : Addr × Obj → ι → List Sl} {pre : Addr × Obj → ι → Prop} {t : Ty ρ} {out : ι → ρ} (F : Fun K x qual st f fd) (S : FnScope N ps (defScope st)) (n : Nat)
    (hn : N.length = ps.length + n) (hl : ∀ p i, (ar p i).length = ps.length)
    (hb : ∀ (cdv : Value) (A : Around) (outer : List Env) (s : Shared) (H : Hp) (E : XK) (p : Addr × Obj), L2H.Hot1 A p → L2H.RoomH k (A.deeper (envOfC qual (defScope st) s.heap.objs.size f cdv)) → ∀ i, pre p i →
      B (L2H.cxH CX0 P w K mg base N qual (defScope st) f cdv A outer s H E p) (ar p i ++ List.replicate n .un) (defBody st) (Ret K t (out i))) : FnHP P w K mg base (k + 1) f fd ps (fun p => spG K (ar p) (pre p) t out) := by
  refine okHP F S (fun p vs H Q E h => ?_) (fun cdv A outer s H vs Q E p hot hr h => ⟨_, pss_w, ?_⟩)
  · obtain ⟨i, M, _, r, _⟩ := h
    rw [reps_len r, hl]
  · obtain ⟨i, M, m, r, hp, q⟩ := h
    refine (hb cdv A outer s H E p hot hr i hp).run _ (fun _ _ _ _ => False) (st_start m r (by rw [hl]; exact hn)) takes_false ⟨fun S' h => ?_, fun n2 h => q _ _ _ n2 h, fun _ h => h.elim, fun _ h => h.elim, fun _ h => h.elim⟩
    exact q _ _ _ S'.nx (h _)
/-- such a def as its callers know it -/
structure FnP (P : Program) (w : World) (K : Fg) (mg : Str → Option Value) (base : Heap) (k : Nat) (name : Str) (ps : List Str) (sp : Addr × Obj → Sp) : Prop where
  ex : ∃ f fd, mg name = some (.ref f) ∧ PySem.W.keepIn K (.ref f) = true ∧ Binds K fd ps [] ∧ FnHP P w K mg base k f fd ps sp
end
section
variable {α β γ ι ρ : Type} {X : Cx} {G : List Sl} {a b c e : Expr} {es : List Expr} {pos : Pos} {k : Nat}
/-- a call in a context that bears the exception p -/
theorem run_fnHP {pins : List (Addr × Obj)} {σ : L2.St} {H : Hp} {s : Shared} {Q : VK} {us : List Value} {vs : List V} {f : Addr} {fd : FuncData} {ps : List Str} {sp : Addr × Obj → Sp} (F : FnHP X.prog X.w X.K X.mg X.base k f fd ps sp) (hr : L2H.RoomH k X.A) {p : Addr × Obj} (hot : L2H.Hot1 X.A p) (hp : p ∈ X.pn) (hb : Binds X.K fd ps [])
    (I : Inv X pins σ H s) (r : Vals vs us) (h : sp p vs H Q (fun _ _ _ => False)) : wpAny (model X.prog X.w) X.A (call (.ref f) us) (EP X pins σ Q) X.xe s := by
  have lens : us.length = ps.length := r.length.symm.trans (F.len _ _ _ _ _ h)
  have bnd := hb s us I.kIn (by rw [List.append_nil]; exact lens)
  rw [List.append_nil] at bnd
  obtain ⟨g1, g2, g3, g4, g5⟩ := I.pin p (List.mem_append_left _ hp)
  have pin : L2H.PinOk X.stack H s p := ⟨g1, g2, fun m => (List.mem_cons.mp (I.stkSub p.1 m)).elim g3 g4, g5⟩
  refine wpAny_call (codeAny_mono (F.go X.A X.stack s H ⟨us, []⟩ us vs Q (fun _ _ _ => False) p hr hot pin I.env0 bnd r h) fun res s' after => ?_)
  match res, after with
  | .ok (.ret _), q => exact I.after q
  | .ok .next, z => exact z.elim
  | .ok .brk, z => exact z.elim
  | .ok .cont, z => exact z.elim
  | .error _, z => exact z.elim
theorem pe_callHP {n : Str} {f : Addr} {fd : FuncData} {ps : List Str} {sp : Addr × Obj → Sp} {t : TA} {q : Pos} (F : FnHP X.prog X.w X.K X.mg X.base k f fd ps sp) (hr : L2H.RoomH k X.A) {p : Addr × Obj} (hot : L2H.Hot1 X.A p) (hp : p ∈ X.pn) (hb : Binds X.K fd ps []) (gl : Gl X n) (mn : X.mg n = some (.ref f)) (kp : PySem.W.keepIn X.K (.ref f) = true)
    (ha : PA X (e :: es) t) (nd : (n == ("__debug__" : Str)) = false) (st : starEach (e :: es) X.env = (false, eval e X.env) :: starEach es X.env) (pl : (backTo pos (starEach es X.env)).any (·.1) = false) :
    PE X (.Call (.Name n q) (e :: es) [] pos) (fun σ H Q => t σ H fun vs H1 => sp p vs H1 Q (fun _ _ _ => False)) := ⟨fun pins s σ H Q I h => by
  refine wpAny_Call_Name_kw (ld_glob I gl mn (PySem.W.callWith_K (h₀ := X.base) I.ok.mod.kin kp (thn (ha.run pos pins s σ H _ I h) ?_) st pl) nd)
  rintro us s1 ⟨vs, H1, I1, r, q1⟩
  exact ⟨I1.kIn, run_fnHP F hr hot hp hb I1 r q1⟩⟩
theorem e_callHP {P : Program} {w : World} {K : Fg} {mg : Str → Option Value} {base : Heap} {n : Str} {ps : List Str} {ar : Addr × Obj → ι → List Sl} {pre : Addr × Obj → ι → Prop} {tr : Ty ρ} {out : ι → ρ} {q : Pos} (C : FnP P w K mg base k n ps (fun p => spG K (ar p) (pre p) tr out)) (hr : L2H.RoomH k X.A) {p : Addr × Obj} (hot : L2H.Hot1 X.A p) (hp : p ∈ X.pn) (i : ι) (ha : EA X G (e :: es) (ar p i)) (hpr : pre p i)
    (hg : Gl X n := by rfl) (hdb : (n == ("__debug__" : Str)) = false := by decide) (he : starEach (e :: es) X.env = (false, eval e X.env) :: starEach es X.env := by rfl) (hpl : (backTo pos (starEach es X.env)).any (·.1) = false := by rfl)
    (xP : X.prog = P := by rfl) (xw : X.w = w := by rfl) (xK : X.K = K := by rfl) (xm : X.mg = mg := by rfl) (xb : X.base = base := by rfl) : E X G (.Call (.Name n q) (e :: es) [] pos) tr (out i) := ⟨fun S Q k => by
  subst xP xw xK xm xb
  obtain ⟨f, fd, hm, hk, hb, F⟩ := C.ex
  exact ⟨_, pe_callHP F hr hot hp hb hg hm hk pa_w hdb he hpl, ha.run S _ fun vs M1 H1 n1 r1 => ⟨i, M1, n1.sub, r1, hpr, fun v M2 H2 n2 r2 => k v M2 H2 (n1.trans n2) r2⟩⟩⟩
end
end TL

namespace TL
open PySem PySem.Spec PyProof.Rows L2
/-! ### dicts of one's own, told by what they hold at each key -/
def ORep {α : Type} (R : V → α → Prop) : Option V → Option α → Prop
  | none, none => True
  | some v, some x => R v x
  | _, _ => False
/-- keys of one kind -/
structure KeyD (κ : Type) [DecidableEq κ] where
  ty : Ty κ
  ho : (κ → Option V) → Nat → HO → Prop
  get : ∀ {K : Fg} {M H : Hp} {a : Addr} {u : HO} {g : κ → Option V} {n : Nat} {v : V} {k : κ}, Same M H → H a = some u → ho g n u → ty.rep K M v k → DGet H a v (g k)
  put : ∀ {K : Fg} {M H : Hp} {a : Addr} {u : HO} {g : κ → Option V} {n : Nat} {v w : V} {k : κ}, Same M H → H a = some u → ho g n u → ty.rep K M v k → n < 1000000 → ∃ u', DPut H a v w (upd H a u') ∧ ho (fun j => if j = k then some w else g j) (n + 1) u'
  no : ∀ {g : κ → Option V} {n : Nat} {u : HO}, ho g n u → ∀ p, u ≠ .own p
theorem million_le : 1000000 ≤ sizeLine := by rw [sizeLine_eq]; omega
def kyI : KeyD Int where
  ty := tI
  ho g n u := ∃ kvs, u = .dK kvs ∧ kvs.length ≤ n ∧ ∀ k, valV kvs (.inl k) = g k
  get := fun _ e ⟨kvs, h1, _, h3⟩ r => by
    subst h1
    obtain rfl := r
    rw [← h3]
    exact DGet.k (k := .inl _) e
  put := fun {K M H a u g n v w k} _ e ⟨kvs, h1, h2, h3⟩ r hn => by
    subst h1
    obtain rfl := r
    refine ⟨_, DPut.k (k := .inl k) e (Nat.lt_of_lt_of_le (Nat.lt_of_le_of_lt h2 hn) million_le), _, rfl, Nat.le_trans (length_putK _ _ _) (Nat.add_le_add_right h2 1), fun j => ?_⟩
    rw [valV_put, h3]
    by_cases z : j = k
    · subst z; show _ = if _ then _ else _; rw [if_pos rfl, if_pos rfl]
    · show _ = if _ then _ else _; rw [if_neg z, if_neg (fun q => z (Sum.inl.inj q))]
  no := fun ⟨_, h, _⟩ p => by subst h; simp
/-- a pair of whole numbers, a tracked tuple -/
def tKP : Ty (Int × Int) := ⟨fun _ M v x => ∃ b, v = .ref b ∧ M b = some (.tup [.int x.1, .int x.2]), fun e ⟨b, h1, h2⟩ => ⟨b, h1, e _ _ h2⟩⟩
def kyP : KeyD (Int × Int) where
  ty := tKP
  ho g n u := ∃ kvs, u = .dT kvs ∧ kvs.length ≤ n ∧ ∀ k, valV kvs [.inl k.1, .inl k.2] = g k
  get := fun m e ⟨kvs, h1, _, h3⟩ ⟨b, r1, r2⟩ => by
    subst h1 r1
    rw [← h3]
    exact DGet.t e (k := [.inl _, .inl _]) (m _ _ r2)
  put := fun {K M H a u g n v w k} m e ⟨kvs, h1, h2, h3⟩ ⟨b, r1, r2⟩ hn => by
    subst h1 r1
    refine ⟨_, DPut.t (k := [.inl k.1, .inl k.2]) e (m _ _ r2) (Nat.lt_of_lt_of_le (Nat.lt_of_le_of_lt h2 hn) million_le), _, rfl, Nat.le_trans (length_putK _ _ _) (Nat.add_le_add_right h2 1), fun j => ?_⟩
    rw [valV_put, h3]
    by_cases z : j = k
    · subst z; show _ = if _ then _ else _; rw [if_pos rfl, if_pos rfl]
    · show _ = if _ then _ else _; rw [if_neg z, if_neg (fun q => z (by
        simp only [List.cons.injEq, Sum.inl.injEq, and_true] at q
        exact Prod.ext q.1 q.2))]
  no := fun ⟨_, h, _⟩ p => by subst h; simp
/-- a dict with at most n keys that holds f -/
def cF {κ α : Type} [DecidableEq κ] (kd : KeyD κ) (t : Ty α) (n : Nat) (f : κ → Option α) : Ct where
  rep K M u := ∃ g, kd.ho g n u ∧ ∀ k, ORep (t.rep K M) (g k) (f k)
  ext := fun e ⟨g, h1, h2⟩ => ⟨g, h1, fun k => by
    have := h2 k
    revert this
    cases g k <;> cases f k <;> first | exact id | exact t.ext e⟩
  no := fun ⟨g, h1, _⟩ => kd.no h1
section
variable {K : Fg} {M0 H0 M H M' H' : Hp} {σ : L2.St} {G : List Sl}
theorem St.setOx {c : Ct} {u : HO} {i : Nat} {p : Addr} (S : St K M0 H0 M H σ G) (n : Nx M H M' H') (hp : H p = none) (mp : M' p = none) (hH : H' p = some u) (hr : c.rep K M' u) :
    St K M0 H0 M' H' (σ.set i (some (.ref p))) (G.set i (.ox c)) := by
  refine S.change (fp := [p]) (S.nx.trans n) (fun _ A h1 _ j t' _ e o x hx hx2 => ?_) (fun _ _ _ _ _ _ _ _ r => r.next n) ⟨p, u, rfl, rfl, S.nx.ex.free hp, mp, hH, hr⟩
  obtain ⟨_, _, r⟩ := h1 j t' e
  have q := (r.there o x hx).2.2
  rw [List.mem_singleton.mp hx2, hp] at q
  rcases q with ⟨_, q⟩ | ⟨_, _, _, q⟩ | ⟨_, q, _⟩ <;> cases q
theorem St.putOx {c d : Ct} {i : Nat} (S : St K M0 H0 M H σ G) (h : G[i]? = some (.ox c)) :
    ∃ a u, σ[i]? = some (some (.ref a)) ∧ H a = some u ∧ M a = none ∧ c.rep K M u ∧ ∀ u', d.rep K M u' → St K M0 H0 M (upd H a u') σ (G.set i (.ox d)) := by
  obtain ⟨A0, h10, h20⟩ := S.sl
  obtain ⟨o, q, a, u, ef, e, h0, hm, hh, pr⟩ := h10 i _ h
  subst e
  refine ⟨a, u, q, hh, hm, pr, fun u' pw => ?_⟩
  have hno := c.no pr
  rw [← S.value q]
  refine S.change (fp := [a]) (nx_upd S.nx h0 hm) (fun _ A h1 h2 j t' nj e' o' x hx hx2 => ?_) (fun A h1 h2 j t' o' nj e' r => ?_) ⟨a, u', rfl, rfl, h0, hm, upd_same, pw⟩
  all_goals obtain ⟨o2, q2, a2, u2, ef2, e2, _⟩ := h1 i _ h
  all_goals rw [q] at q2
  all_goals cases q2
  all_goals cases e2
  · exact h2 j i _ _ e' h o' rfl nj x hx (by rw [ef2]; exact hx2)
  · cases hc : t'.own with
    | true => exact r.keep (fun x hx => upd_ne (fun z => h2 j i _ _ e' h hc rfl nj x hx (by rw [ef2, z]; simp))) (own_upd hh hno)
    | false =>
      cases t' with
      | un => trivial
      | vl t x => exact r
      | ow _ _ => cases hc
      | o2 _ _ => cases hc
      | ob _ _ _ _ => cases hc
      | ox _ => cases hc
end
/-- a new thing -/
structure ENw (X : Cx) (G : List Sl) (e : Expr) (c : Ct) : Prop where
  run : ∀ {M0 H0 M H : Hp} {σ : L2.St}, St X.K M0 H0 M H σ G → ∀ (Q : VK), (∀ p M' H' u, Nx M H M' H' → H p = none → M' p = none → H' p = some u → c.rep X.K M' u → Q (.ref p) H') → wE X e σ H Q
section
variable {α κ : Type} [DecidableEq κ] {X : Cx} {G : List Sl} {a e ib : Expr} {t : Ty α} {x : α} {k : κ} {kd : KeyD κ} {n : Nat} {f : κ → Option α} {pos : Pos} {R : Out}
theorem s_ox (k : Nat) {c : Ct} {n : Str} {pos' : Pos} (he : ENw X G e c) (h : R.nx (G.set k (.ox c))) (hN : X.N.Nodup) (hi : X.N[k]? = some n := by rfl) (hx : Loc X.env.scope n := by first | exact Or.inl rfl | exact Or.inr rfl)
    (hs : swapsWith e (some (.Name n pos')) pos.line X.env = pure false := by rfl) (hf : X.fn n = true ∨ X.env.scope.names.lookup n = some .local := by first | exact .inl rfl | exact .inr rfl) : S1 X G (.Assign [.Name n pos'] e pos) R := ⟨fun D E S tk f =>
  ⟨_, ps_set hN hi hx pe_w hs hf, he.run S _ fun p M1 H1 u n1 hp mp hh r1 => f.nx (S.setOx n1 hp mp hh r1) h⟩⟩
/-- {} -/
theorem eo_new : ENw X G (.Dict [] [] pos) (cF kyI t 0 fun _ => none) := ⟨fun {M0 H0 M H σ} S Q k =>
  ⟨_, pe_dnewK, fun p hp => by
    have mp : M p = none := same_none S.sub hp
    refine k p M _ _ ⟨same_new hp, Same.refl _, S.sub.trans (same_new hp), fun b q _ => q⟩ hp mp upd_same ⟨fun _ => none, ⟨[], rfl, Nat.le_refl _, fun _ => rfl⟩, fun _ => trivial⟩⟩⟩
theorem eo_newP : ENw X G (.Dict [] [] pos) (cF kyP t 0 fun _ => none) := ⟨fun {M0 H0 M H σ} S Q k =>
  ⟨_, pe_dnewT, fun p hp => by
    have mp : M p = none := same_none S.sub hp
    refine k p M _ _ ⟨same_new hp, Same.refl _, S.sub.trans (same_new hp), fun b q _ => q⟩ hp mp upd_same ⟨fun _ => none, ⟨[], rfl, Nat.le_refl _, fun _ => rfl⟩, fun _ => trivial⟩⟩⟩
/-- {a: e} -/
theorem eo_one {i : Int} (ha : E X G a tI i) (he : E X G e t x) : ENw X G (.Dict [some a] [e] pos) (cF kyI t 1 fun j => if j = i then some x else none) := ⟨fun {M0 H0 M H σ} S Q k => by
  refine ⟨_, pe_disp (pps_cons pe_w pe_w pps_nil) rfl rfl (by simp) (by simp), fun p hp => ?_⟩
  have mp : M p = none := same_none S.sub hp
  have n0 : Nx M H M (upd H p (.dK [])) := ⟨same_new hp, Same.refl _, S.sub.trans (same_new hp), fun b q _ => q⟩
  refine ha.run (S.next n0) _ fun v M1 H1 n1 r1 => he.run (S.next (n0.trans n1)) _ fun w M2 H2 n2 r2 => ?_
  have n3 := n0.trans (n1.trans n2)
  have n12 := n1.trans n2
  have hp2 : H2 p = some (.dK []) := n12.ex _ _ upd_same
  have mp2 : M2 p = none := n12.fr p mp (by rw [upd_same]; simp)
  obtain rfl := r1
  refine ⟨hp2, [(.inl i, w)], rfl, by simp, k p M2 _ _ (nx_upd n3 hp mp2) hp mp2 upd_same ⟨fun j => if j = i then some w else none, ⟨_, rfl, by simp [mergeK, putK], fun j => ?_⟩, fun j => ?_⟩⟩
  · show valV (putK [] (Sum.inl i : Key) w) _ = if _ then _ else _
    rw [valV_put]
    by_cases z : j = i
    · subst z; rw [if_pos rfl, if_pos rfl]
    · rw [if_neg z, if_neg (fun q => z (Sum.inl.inj q))]; rfl
  · by_cases z : j = i
    · show ORep _ (if _ then _ else _) (if _ then _ else _); rw [if_pos z, if_pos z]; exact r2
    · show ORep _ (if _ then _ else _) (if _ then _ else _); rw [if_neg z, if_neg z]; trivial⟩
/-- d[k] -/
theorem e_dget (m : Nat) {nm : Str} {p1 : Pos} (h0 : G[m]? = some (.ox (cF kd t n f))) (hib : E X G ib kd.ty k) (h : f k = some x) (hu : X.A.units + 1 < cLine) (hi : X.N[m]? = some nm := by rfl)
    (hv : Vis X.env.scope nm := by first | exact Or.inl rfl | exact Or.inr (Or.inl rfl) | exact Or.inr (Or.inr rfl))
    (hd : (nm == ("__debug__" : Str)) = false := by decide) (hcd : (nm == ("__classdict__" : Str)) = false := by decide) (hs : NoSl ib := by exact fun _ _ => rfl) : E X G (.Subscript (.Name nm p1) ib pos) t x := ⟨fun {M0 H0 M H σ} S Q q => by
  obtain ⟨a, u, e0, hh, hm, _⟩ := S.putOx (d := cF kd t n f) h0
  refine ⟨_, pe_dget hu (pe_var hi hv hd hcd) pe_w hs, .ref a, e0, hib.run S _ fun w M2 H2 n2 r2 => ?_⟩
  obtain ⟨a', u', e1, hh2, _, ⟨g, g1, g2⟩, _⟩ := (S.next n2).putOx (d := cF kd t n f) h0
  rw [e0] at e1
  cases e1
  have gk := g2 k
  rw [h] at gk
  cases hg : g k with
  | none => rw [hg] at gk; exact gk.elim
  | some v =>
    rw [hg] at gk
    have dg := kd.get n2.sub hh2 g1 r2
    rw [hg] at dg
    exact ⟨a, v, rfl, dg, q v M2 H2 n2 gk⟩⟩
theorem orep_is {R : V → α → Prop} {o : Option V} {p : Option α} (h : ORep R o p) : o.isSome = p.isSome := by
  cases o <;> cases p <;> first | rfl | exact h.elim
/-- k in d -/
theorem e_din (m : Nat) {nm : Str} {p1 : Pos} (h0 : G[m]? = some (.ox (cF kd t n f))) (hib : E X G ib kd.ty k) (hu : X.A.units + 1 < cLine) (hi : X.N[m]? = some nm := by rfl)
    (hv : Vis X.env.scope nm := by first | exact Or.inl rfl | exact Or.inr (Or.inl rfl) | exact Or.inr (Or.inr rfl))
    (hd : (nm == ("__debug__" : Str)) = false := by decide) (hcd : (nm == ("__classdict__" : Str)) = false := by decide) (hb : behindInMarks .In (.Name nm p1) = false := by rfl) : E X G (.Compare ib [.In] [.Name nm p1] pos) tB (f k).isSome := ⟨fun {M0 H0 M H σ} S Q q => by
  obtain ⟨a, u, e0, _⟩ := S.putOx (d := cF kd t n f) h0
  refine ⟨_, pe_cmp (pc_din hu pe_w (pe_var hi hv hd hcd)) hb, hib.run S _ fun w M2 H2 n2 r2 => ?_⟩
  obtain ⟨a', u', e1, hh2, _, ⟨g, g1, g2⟩, _⟩ := (S.next n2).putOx (d := cF kd t n f) h0
  rw [e0] at e1
  cases e1
  exact ⟨.ref a, e0, a, g k, rfl, kd.get n2.sub hh2 g1 r2, q _ M2 H2 n2 (by rw [orep_is (g2 k)]; rfl)⟩⟩
/-- k not in d -/
theorem e_dnin (m : Nat) {nm : Str} {p1 : Pos} (h0 : G[m]? = some (.ox (cF kd t n f))) (hib : E X G ib kd.ty k) (hu : X.A.units + 1 < cLine) (hi : X.N[m]? = some nm := by rfl)
    (hv : Vis X.env.scope nm := by first | exact Or.inl rfl | exact Or.inr (Or.inl rfl) | exact Or.inr (Or.inr rfl))
    (hd : (nm == ("__debug__" : Str)) = false := by decide) (hcd : (nm == ("__classdict__" : Str)) = false := by decide) (hb : behindInMarks .NotIn (.Name nm p1) = false := by rfl) : E X G (.Compare ib [.NotIn] [.Name nm p1] pos) tB (!(f k).isSome) := ⟨fun {M0 H0 M H σ} S Q q => by
  obtain ⟨a, u, e0, _⟩ := S.putOx (d := cF kd t n f) h0
  refine ⟨_, pe_cmp (pc_dnotin hu pe_w (pe_var hi hv hd hcd)) hb, hib.run S _ fun w M2 H2 n2 r2 => ?_⟩
  obtain ⟨a', u', e1, hh2, _, ⟨g, g1, g2⟩, _⟩ := (S.next n2).putOx (d := cF kd t n f) h0
  rw [e0] at e1
  cases e1
  exact ⟨.ref a, e0, a, g k, rfl, kd.get n2.sub hh2 g1 r2, q _ M2 H2 n2 (by rw [orep_is (g2 k)]; rfl)⟩⟩
/-- k in d, as a test -/
theorem t_din (m : Nat) {nm : Str} {p1 : Pos} (h0 : G[m]? = some (.ox (cF kd t n f))) (hib : E X G ib kd.ty k) (hu : X.A.units + 1 < cLine) (hi : X.N[m]? = some nm := by rfl)
    (hv : Vis X.env.scope nm := by first | exact Or.inl rfl | exact Or.inr (Or.inl rfl) | exact Or.inr (Or.inr rfl))
    (hd : (nm == ("__debug__" : Str)) = false := by decide) (hcd : (nm == ("__classdict__" : Str)) = false := by decide) (hb : behindInMarks .In (.Name nm p1) = false := by rfl) : T X G (.Compare ib [.In] [.Name nm p1] pos) ((f k).isSome) := ⟨fun {M0 H0 M H σ} S Q q => by
  obtain ⟨a, u, e0, _⟩ := S.putOx (d := cF kd t n f) h0
  refine ⟨_, pt_cmp (pc_din hu pe_w (pe_var hi hv hd hcd)) hb, hib.run S _ fun w M2 H2 n2 r2 => ?_⟩
  obtain ⟨a', u', e1, hh2, _, ⟨g, g1, g2⟩, _⟩ := (S.next n2).putOx (d := cF kd t n f) h0
  rw [e0] at e1
  cases e1
  exact ⟨.ref a, e0, a, g k, rfl, kd.get n2.sub hh2 g1 r2, _, rfl, by rw [orep_is (g2 k)]; exact q M2 H2 n2⟩⟩
/-- k not in d, as a test -/
theorem t_dnin (m : Nat) {nm : Str} {p1 : Pos} (h0 : G[m]? = some (.ox (cF kd t n f))) (hib : E X G ib kd.ty k) (hu : X.A.units + 1 < cLine) (hi : X.N[m]? = some nm := by rfl)
    (hv : Vis X.env.scope nm := by first | exact Or.inl rfl | exact Or.inr (Or.inl rfl) | exact Or.inr (Or.inr rfl))
    (hd : (nm == ("__debug__" : Str)) = false := by decide) (hcd : (nm == ("__classdict__" : Str)) = false := by decide) (hb : behindInMarks .NotIn (.Name nm p1) = false := by rfl) : T X G (.Compare ib [.NotIn] [.Name nm p1] pos) (!(f k).isSome) := ⟨fun {M0 H0 M H σ} S Q q => by
  obtain ⟨a, u, e0, _⟩ := S.putOx (d := cF kd t n f) h0
  refine ⟨_, pt_cmp (pc_dnotin hu pe_w (pe_var hi hv hd hcd)) hb, hib.run S _ fun w M2 H2 n2 r2 => ?_⟩
  obtain ⟨a', u', e1, hh2, _, ⟨g, g1, g2⟩, _⟩ := (S.next n2).putOx (d := cF kd t n f) h0
  rw [e0] at e1
  cases e1
  exact ⟨.ref a, e0, a, g k, rfl, kd.get n2.sub hh2 g1 r2, _, rfl, by rw [orep_is (g2 k)]; exact q M2 H2 n2⟩⟩
/-- d[k] = e -/
theorem s_dput (m : Nat) {nm : Str} {p1 p2 : Pos} (h0 : G[m]? = some (.ox (cF kd t n f))) (he : E X G e t x) (hib : E X G ib kd.ty k) (hn : n < 1000000) (hu : X.A.units + 1 < cLine) (h : R.nx (G.set m (.ox (cF kd t (n + 1) fun j => if j = k then some x else f j)))) (hi : X.N[m]? = some nm := by rfl)
    (hv : Vis X.env.scope nm := by first | exact Or.inl rfl | exact Or.inr (Or.inl rfl) | exact Or.inr (Or.inr rfl))
    (hd : (nm == ("__debug__" : Str)) = false := by decide) (hcd : (nm == ("__classdict__" : Str)) = false := by decide)
    (hs : swapsWith e (some (.Subscript (.Name nm p1) ib p2)) pos.line X.env = pure false := by rfl) : S1 X G (.Assign [.Subscript (.Name nm p1) ib p2] e pos) R := ⟨fun D E S tk fo => by
  obtain ⟨a, u, e0, _⟩ := S.putOx (d := cF kd t n f) h0
  refine ⟨_, ps_dput hu (pe_var hi hv hd hcd) pe_w pe_w hs, he.run S _ fun v M1 H1 n1 r1 => ⟨.ref a, e0, hib.run (S.next n1) _ fun w M2 H2 n2 r2 => ?_⟩⟩
  obtain ⟨a', u', e1, hh2, _, ⟨g, g1, g2⟩, ch⟩ := ((S.next n1).next n2).putOx (d := cF kd t (n + 1) fun j => if j = k then some x else f j) h0
  rw [e0] at e1
  cases e1
  obtain ⟨u2, dp, ho⟩ := kd.put (w := v) n2.sub hh2 g1 r2 hn
  refine ⟨a, _, rfl, dp, fo.nx (ch u2 ⟨_, ho, fun j => ?_⟩) h⟩
  by_cases z : j = k
  · show ORep _ (if _ then _ else _) (if _ then _ else _); rw [if_pos z, if_pos z]; exact t.ext n2.vx r1
  · show ORep _ (if _ then _ else _) (if _ then _ else _); rw [if_neg z, if_neg z]; exact g2 j⟩
end
/-! ### exceptions as values -/
def tXo {α : Type} (C : Addr) (fs : α → List (Str × Cl)) : Ty α := ⟨fun K M v x => ∃ a d us, v = .ref a ∧ M a = some (exo a C (some d)) ∧ M d = some (exd d us) ∧ FReps K M us (fs x),
  fun e ⟨a, d, us, h1, h2, h3, h4⟩ => ⟨a, d, us, h1, e _ _ h2, e _ _ h3, freps_ext e h4⟩⟩
section
variable {X : Cx} {C fI : Addr} {k : Nat} {fd : FuncData} {ps : List Str} {sp : Sp} {pins : List (Addr × Obj)} {τ : L2.St}
/-- the call of the class, its value kept -/
theorem kept_call (T : OexC X.K C) (hi : PySem.W.findIn X.K (.ref C) "__init__" = some (some (.ref fI))) (ti : PySem.W.typeIn X.K (.ref fI) = some (.type "function")) (F1 : FnOk X.prog X.w X.K X.mg X.base CX0 k fI fd ps sp) (hr : Room (k + 1) X.A) (hb : Binds X.K fd ps [])
    {s1 : Shared} {H1 : Hp} {us : List Value} {vs : List V} {Q : VK} (J : Inv X pins τ H1 s1) (r : Vals vs us) (hz : vs.length ≤ 1000)
    (hq : ∀ a, H1 a = none → sp (.ref a :: vs) (upd H1 a (exo a C none)) (fun v H2 => v = .non ∧ Q (.ref a) H2) (fun _ _ _ => False)) :
    wpAny (model X.prog X.w) X.A (call (.ref C) us) (EP X pins τ Q) X.xe s1 := by
  obtain ⟨_, _, _, _, mro, _, _, _, _, _, _, _, _, _, _, look, good⟩ := T.cls
  obtain ⟨hp, gn, dw, tk, osx⟩ := s1
  have here : ((hp.push (PySem.W.kdv_tup us)).push (PySem.HandSPX.excO C hp.objs.size)).get? (hp.objs.size + 1) = some (PySem.HandSPX.excO C hp.objs.size) := by heap_get
  have I2 : Inv X pins τ (upd H1 (hp.objs.size + 1) (exo (hp.objs.size + 1) C none)) ⟨(hp.push (PySem.W.kdv_tup us)).push (PySem.HandSPX.excO C hp.objs.size), gn, dw, tk, osx⟩ :=
    J.laid (t' := tk) (o := exo (hp.objs.size + 1) C none) (fun _ _ z => Heap.get?_push_of_some _ (Heap.get?_push_of_some _ z)) (Nat.le_succ _) (exo_ok here)
  have prom := hq _ (J.hok.fresh (Nat.le_succ _))
  have rr : Vals (V.ref (hp.objs.size + 1) :: vs) (Value.ref (hp.objs.size + 1) :: us) := Paired.cons (F := RelV) (a := V.ref (hp.objs.size + 1)) (b := Value.ref (hp.objs.size + 1)) rfl r
  have bnd := hb ⟨_, gn, dw, tk, osx⟩ (Value.ref (hp.objs.size + 1) :: us) I2.kIn (by rw [List.append_nil]; exact rr.length.symm.trans (F1.len _ _ _ _ prom))
  rw [List.append_nil] at bnd
  refine wpAny_call (PySem.HandSPX.call_own F.excBase_ValueError (fun Y => PySem.HandSPX.refsVE_contains Y mro good) (J.kIn _ _ look) (PySem.W.looks_findIn J.kIn hi) (PySem.W.bind_fn J.kIn · ti) (by rw [← Paired.length r, sizeLine_eq]; omega) ?_)
  refine codeAny_mono (F1.run _ X.stack _ _ ⟨Value.ref (hp.objs.size + 1) :: us, []⟩ _ _ _ (fun _ _ _ => False) (hr.make C us []) (I2.env0.make C us []) bnd rr prom) fun res s' hres => ?_
  match res, hres with
  | .ok (.ret u), q =>
    obtain ⟨v, H2, I3, rv, ev, q2⟩ := I2.after q
    subst ev
    exact ⟨rv, V.ref (hp.objs.size + 1), H2, I3, rfl, q2⟩
  | .ok .next, z => exact z.elim
  | .ok .brk, z => exact z.elim
  | .ok .cont, z => exact z.elim
  | .error _, z => exact z.elim
theorem pe_kept {n : Str} {e : Expr} {es : List Expr} {ta : TA} {p q : Pos} (T : OexC X.K C) (hi : PySem.W.findIn X.K (.ref C) "__init__" = some (some (.ref fI))) (ti : PySem.W.typeIn X.K (.ref fI) = some (.type "function")) (F1 : FnOk X.prog X.w X.K X.mg X.base CX0 k fI fd ps sp) (hr : Room (k + 1) X.A) (hb : Binds X.K fd ps [])
    (gl : Gl X n) (mn : X.mg n = some (.ref C)) (ha : PA X (e :: es) ta) (nd : (n == ("__debug__" : Str)) = false) (st : starEach (e :: es) X.env = (false, eval e X.env) :: starEach es X.env) (pl : (backTo q (starEach es X.env)).any (·.1) = false) :
    PE X (.Call (.Name n p) (e :: es) [] q) (fun σ H Q => ta σ H fun vs H1 => vs.length ≤ 1000 ∧ ∀ a, H1 a = none → sp (.ref a :: vs) (upd H1 a (exo a C none)) (fun v H2 => v = .non ∧ Q (.ref a) H2) (fun _ _ _ => False)) := ⟨fun pins s τ H Q J h => by
  refine wpAny_Call_Name_kw (ld_glob J gl mn (PySem.W.callWith_K (h₀ := X.base) J.ok.mod.kin T.kC (thn (ha.run q pins s τ H _ J h) ?_) st pl) nd)
  rintro us s1 ⟨vs, H1, J1, r1, hz, q1⟩
  exact ⟨J1.kIn, kept_call T hi ti F1 hr hb J1 r1 hz q1⟩⟩
end
section
variable {α ι : Type} {X : Cx} {G : List Sl} {a b e : Expr} {es : List Expr} {pos : Pos} {x : α}
/-- C(e, ..), an exception that isn't raised -/
theorem e_kept {P : Program} {w : World} {K : Fg} {mg : Str → Option Value} {base : Heap} {n : Str} {C : Addr} {ps : List Str} {ar : ι → List Sl} {pre : ι → Prop} {fs : ι → List (Str × Cl)} {p : Pos} (M : XMk P w K mg base n C ps (spXI K C ar pre fs)) (hr : Room 2 X.A) (i : ι) (ha : EA X G (e :: es) (ar i)) (hp : pre i)
    (hz : (ar i).length ≤ 1000 := by first | decide | exact Nat.le_of_ble_eq_true rfl) (hg : Gl X n := by rfl) (hdb : (n == ("__debug__" : Str)) = false := by decide) (he : starEach (e :: es) X.env = (false, eval e X.env) :: starEach es X.env := by rfl) (hpl : (backTo pos (starEach es X.env)).any (·.1) = false := by rfl)
    (xP : X.prog = P := by rfl) (xw : X.w = w := by rfl) (xK : X.K = K := by rfl) (xm : X.mg = mg := by rfl) (xb : X.base = base := by rfl) : E X G (.Call (.Name n p) (e :: es) [] pos) (tXo C fs) i := ⟨fun S Q k => by
  subst xP xw xK xm xb
  obtain ⟨fI, fd, h1, h2, F, hm, hb⟩ := M.ex
  refine ⟨_, pe_kept M.xc.ox h1 h2 F hr hb hg hm pa_w hdb he hpl, ha.run S _ fun vs M1 H1 n1 r1 => ⟨by rw [reps_len r1]; exact hz, fun ad had => ?_⟩⟩
  refine ⟨i, ad, vs, M1, rfl, upd_same, same_none n1.sub had, n1.sub.trans (same_new had), r1, hp, fun d us hd ne rf => ⟨rfl, ?_⟩⟩
  have hd1 : H1 d = none := by rw [upd_ne ne] at hd; exact hd
  have eq : upd (upd (upd H1 ad (exo ad C none)) d (exd d us)) ad (exo ad C (some d)) = upd (upd H1 d (exd d us)) ad (exo ad C (some d)) := by
    funext b
    by_cases z2 : b = ad
    · subst z2; rw [upd_same, upd_same]
    · rw [upd_ne z2, upd_ne z2]
      by_cases z1 : b = d
      · subst z1; rw [upd_same, upd_same]
      · rw [upd_ne z1, upd_ne z1, upd_ne z2]
  rw [eq]
  have n2 : Nx M1 H1 (upd M1 d (exd d us)) (upd H1 d (exd d us)) := Nx.new n1.sub hd1
  have n3 : Nx (upd M1 d (exd d us)) (upd H1 d (exd d us)) (upd (upd M1 d (exd d us)) ad (exo ad C (some d))) (upd (upd H1 d (exd d us)) ad (exo ad C (some d))) := Nx.new n2.sub (by rw [upd_ne (Ne.symm ne)]; exact had)
  refine k _ _ _ (n1.trans (n2.trans n3)) ⟨ad, d, us, rfl, upd_same, ?_, freps_ext (n2.trans n3).vx rf⟩
  rw [upd_ne ne, upd_same]⟩
theorem inst_xo {C a d : Addr} {us : List (Str × V)} {pins : List (Addr × Obj)} {σ : L2.St} {H : Hp} {sh : Shared} (I : Inv X pins σ H sh) (ha : H a = some (exo a C (some d))) (hd : H d = some (exd d us)) :
    ∃ ox od, PySem.W.InstAt sh.heap a ox C (some od) ∧ ∃ mA : Str → Option Value, (∀ f, RelO (us.lookup f) (mA f)) ∧ ∀ name, PySem.W.lookIn name od = some (mA name) := by
  obtain ⟨t1, held⟩ := exo_at I.hok ha
  obtain ⟨mA, n1, rel⟩ := exd_at I.hok hd
  obtain ⟨od, at_, look⟩ := lookIn_ns n1
  exact ⟨_, od, ⟨held, rfl, rfl, at_⟩, mA, rel, look⟩
def rIsV (K : Fg) (C : Addr) : List V → Hp → VK → Prop := fun xs H Q => ∃ (a d : Addr) (c : V) (cv : Value) (o : Bool) (us : List (Str × V)), xs = [.ref a, c] ∧ (∀ u, RelV c u → u = cv) ∧ PySem.W.kitOne K (.ref C) cv = some o ∧ H a = some (exo a C (some d)) ∧ H d = some (exd d us) ∧ Q (.bl o) H
theorem call_isV {C : Addr} (T : XCls X.K C) : CallR X (.builtin "isinstance") (rIsV X.K C) := fun pins sh σ H xs us Q I r q => by
  obtain ⟨a, d, cv, cw, o, fl, rfl, det, ans, ha, hd, q⟩ := q
  obtain ⟨w1, w2, rfl, r1, r2⟩ := vals2 r
  obtain rfl : w1 = Value.ref a := r1
  obtain rfl := det _ r2
  obtain ⟨ox, od, inst, _⟩ := inst_xo I ha hd
  exact PySem.W.kia_one T.kitx I.kIn inst ans (fun z => nomatch z) fun tk => ⟨.bl o, H, I.kept (t' := tk) fun _ _ z => z, rfl, q⟩
theorem e_isV {C : Addr} {fs : α → List (Str × Cl)} {p : Pos} {cv : V} {cw : Value} {o : Bool} (T : XCls X.K C) (hm : X.mg "isinstance" = none) (ha : E X G a (tXo C fs) x) (hb : E X G b tC cv) (hcv : ∀ u, RelV cv u → u = cw) (hk : PySem.W.kitOne X.K (.ref C) cw = some o) (hg : Gl X "isinstance" := by rfl)
    (he : starEach [a, b] X.env = (false, eval a X.env) :: starEach [b] X.env := by rfl) (he2 : starEach [b] X.env = (false, eval b X.env) :: starEach [] X.env := by rfl) (hpl : (backTo pos (starEach [b] X.env)).any (·.1) = false := by rfl) : E X G (.Call (.Name "isinstance" p) [a, b] [] pos) tB o :=
  e_cb (call_isV T) (ea_cons ha (ea_cons hb ea_nil he2) he) hm (fun M H vs Q m r k => by
    obtain ⟨v, w, rfl, e1, e2⟩ := reps2 r
    obtain ⟨ad, d, us, rfl, h1, h2, _⟩ := e1
    obtain rfl : w = cv := e2
    exact ⟨ad, d, _, cw, o, us, rfl, hcv, hk, m _ _ h1, m _ _ h2, k _ M H (Nx.refl m) rfl⟩) (by decide +kernel) hg (by decide) (by decide) he hpl
def tXg (C : Addr) (f : Str) (te : TE) : TE := fun σ H Q => te σ H fun x H1 => ∃ (a d : Addr) (us : List (Str × V)) (v : V), x = .ref a ∧ H1 a = some (exo a C (some d)) ∧ H1 d = some (exd d us) ∧ us.lookup f = some v ∧ Q v H1
theorem pe_xg {C : Addr} {te : TE} {n : Str} (T : XCls X.K C) (hno : PySem.W.findIn X.K (.ref C) n = some none) (he : PE X e te) (hb : attributeBase e n X.env (eval e X.env) = eval e X.env) : PE X (.Attribute e n pos) (tXg C n te) := ⟨fun pins sh σ H Q I q => by
  refine attr_of hb (thn (he.run pins sh σ H _ I q) ?_)
  rintro w s1 ⟨x, H1, I1, rx, a, d, us, v, rfl, ha, hd, l, q1⟩
  obtain rfl : w = Value.ref a := rx
  obtain ⟨ox, od, inst, mA, rel, look⟩ := inst_xo I1 ha hd
  obtain ⟨w2, e2, r2⟩ := RelO.some_of (v := v) (o := mA n) (by rw [← l]; exact rel n)
  exact HandSPX.exc_get I1.kIn inst T.xf.ga T.xf.gg T.xf.exC (PySem.W.findObj_own T.xf.hdC hno rfl (by rw [look, e2])) (handed_of r2) ⟨v, H1, I1.tok _, r2, q1⟩⟩
/-- made.f -/
theorem e_xv {C : Addr} {fs : α → List (Str × Cl)} {nm : Str} {cl : Cl} (T : XCls X.K C) (hno : PySem.W.findIn X.K (.ref C) nm = some none) (he : E X G e (tXo C fs) x) (hl : (fs x).lookup nm = some cl) (hb : attributeBase e nm X.env (eval e X.env) = eval e X.env := by rfl) : E X G (.Attribute e nm pos) cl.t cl.x := ⟨fun S Q k =>
  ⟨_, pe_xg T hno pe_w hb, he.run S _ fun v M1 H1 n1 r1 => by
    obtain ⟨a, d, us, rfl, h1, h2, fr⟩ := r1
    obtain ⟨w, g1, g2⟩ := freps_lookup fr hl
    exact ⟨a, d, us, w, rfl, n1.sub _ _ h1, n1.sub _ _ h2, g1, k w M1 H1 n1 g2⟩⟩⟩
end
section
variable {X : Cx} {G : List Sl} {a e : Expr} {body : List Stmt} {pos : Pos} {R : Out} {j : Int}
/-- None or a number against a number -/
theorem cv_eqO {o : Option Int} : CmpV X .Eq (tO tI) tI o j (decide (o = some j)) := ⟨_, op_eq, fun M H v w Q m h1 h2 k => by
  obtain rfl := h2
  cases o with
  | none =>
    obtain rfl := h1
    exact ⟨rfl, k M H (Nx.refl m)⟩
  | some i =>
    obtain rfl := h1
    refine ⟨rfl, ?_⟩
    rw [dec_vint, show decide (i = j) = decide (some i = some j) by simp]
    exact k M H (Nx.refl m)⟩
theorem cv_neO {o : Option Int} : CmpV X .NotEq (tO tI) tI o j (!decide (o = some j)) := ⟨_, op_ne, fun M H v w Q m h1 h2 k => by
  obtain rfl := h2
  cases o with
  | none =>
    obtain rfl := h1
    exact ⟨rfl, k M H (Nx.refl m)⟩
  | some i =>
    obtain rfl := h1
    refine ⟨rfl, ?_⟩
    rw [dec_vint, show decide (i = j) = decide (some i = some j) by simp]
    exact k M H (Nx.refl m)⟩
/-- for x in reversed(range(n)) -/
theorem s_forRR (k : Nat) {n : Str} {pn p1 p2 p3 p4 : Pos} (I : Nat → List Sl → Prop) (G0 : List Sl) (hv : X.mg "reversed" = none) (hm : X.mg "range" = none) (he : E X G a tI j) (hj : 0 ≤ j ∧ j ≤ 1000000) (w0 : Sub G G0) (h0 : I 0 G0)
    (hs : ∀ (m : Nat) G', (m : Int) < j → I m G' → B X (G'.set k (.vl tI (j - 1 - (m : Int)))) body ⟨I (m + 1), R.rt, R.nx, I (m + 1), R.xc⟩) (hd : ∀ G', I j.toNat G' → R.nx G')
    (hN : X.N.Nodup) (hcm : X.calm = true) (hi : X.N[k]? = some n := by rfl) (hx : Loc X.env.scope n := by first | exact Or.inl rfl | exact Or.inr rfl) (hf : X.fn n = true ∨ X.env.scope.names.lookup n = some .local := by first | exact .inl rfl | exact .inr rfl)
    (hp : PassesOwn (model X.prog X.w) X.A X.env X.xe := by first | exact PassesOwn.never | assumption)
    (hgr : Gl X "range" := by rfl) (hgv : Gl X "reversed" := by rfl) (hst : starEach [a] X.env = (false, eval a X.env) :: starEach [] X.env := by rfl)
    (hst2 : starEach [.Call (.Name "range" p1) [a] [] p2] X.env = (false, eval (.Call (.Name "range" p1) [a] [] p2) X.env) :: starEach [] X.env := by rfl)
    (hfs : ∀ x, foldedSetIterable (.Call (.Name "reversed" p3) [.Call (.Name "range" p1) [a] [] p2] [] p4) X.env x = pure x := by intro _; rfl) :
    S1 X G (.For (.Name n pn) (.Call (.Name "reversed" p3) [.Call (.Name "range" p1) [a] [] p2] [] p4) body [] pos) R := ⟨fun {M0 H0 M H σ} D E S tk f =>
  ⟨_, ps_for hp hcm (pi_revR hgv hv (prg_1 hgr hm pe_w hst) hst2) (pg_name (pos := pn) hN hi hx hf) pss_w hfs, he.run S _ fun v M1 H1 n1 r1 => by
    have n0 := S.nx.trans n1
    refine ⟨j, by rw [show v = V.int j from r1], by decide, by decide, by omega, by omega, for_rangeC (fun m σ' H' => ∃ M' G', St X.K M1 H0 M' H' σ' G' ∧ I m G') ⟨M1, G0, ((S.next n1).weak w0).rebase, h0⟩ ?_ ?_⟩
    · rintro m σ' H' hm' ⟨M', G', S', hI⟩
      have e0 : (0 : Int) + (((j - 0).toNat : Nat) : Int) - 1 + (m : Nat) * (-1) = j - 1 - (m : Int) := by omega
      rw [e0]
      exact (hs m G' (by omega) hI).run _ E (S'.set (s := .vl tI (j - 1 - (m : Int))) (v := .int _) rfl) tk ⟨fun S2 h2 => ⟨_, _, S2, h2⟩, fun n2 h2 => f.rt (n0.unbase n2) h2, fun S2 h2 => f.nx (S2.unbase n0) h2, fun S2 h2 => ⟨_, _, S2, h2⟩, fun S2 h2 => f.xc (S2.unbase n0) h2⟩
    · rintro σ' H' ⟨M', G', S', hI⟩
      rw [Int.sub_zero] at hI
      exact f.nx (S'.unbase n0) (hd G' hI)⟩⟩
/-- min(xs) of a list of whole numbers -/
theorem e_minL {lo : Int} {ns : List Int} {p : Pos} (hcm : X.calm = true) (hm : X.mg "min" = none) (ha : E X G a (tLst tI) ns) (h1 : lo ∈ ns) (h2 : ∀ y ∈ ns, lo ≤ y) (hg : Gl X "min" := by rfl) (he : starEach [a] X.env = (false, eval a X.env) :: starEach [] X.env := by rfl) : E X G (.Call (.Name "min" p) [a] [] pos) tI lo :=
  e_cb (cr_min hcm) (ea_cons ha ea_nil he) hm (fun M H vs Q m r k => by
    obtain ⟨v, rfl, p, ws, e1, e2, e3⟩ := reps1 r
    have e4 := paired_int e3
    subst e4
    refine ⟨p, ns, by rw [e1], SqL.of (m _ _ e2), List.length_pos_of_mem h1, fun lo2 g1 g2 => ?_⟩
    have e5 : lo2 = lo := by
      have := h2 _ g1
      have := g2 _ h1
      omega
    subst e5
    exact k _ M H (Nx.refl m) rfl) (by decide +kernel) hg (by decide) (by decide) he
/-- max(xs) of a list of whole numbers -/
theorem e_maxL {lo : Int} {ns : List Int} {p : Pos} (hcm : X.calm = true) (hm : X.mg "max" = none) (ha : E X G a (tLst tI) ns) (h1 : lo ∈ ns) (h2 : ∀ y ∈ ns, y ≤ lo) (hg : Gl X "max" := by rfl) (he : starEach [a] X.env = (false, eval a X.env) :: starEach [] X.env := by rfl) : E X G (.Call (.Name "max" p) [a] [] pos) tI lo :=
  e_cb (cr_max hcm) (ea_cons ha ea_nil he) hm (fun M H vs Q m r k => by
    obtain ⟨v, rfl, p, ws, e1, e2, e3⟩ := reps1 r
    have e4 := paired_int e3
    subst e4
    refine ⟨p, ns, by rw [e1], SqL.of (m _ _ e2), List.length_pos_of_mem h1, fun lo2 g1 g2 => ?_⟩
    have e5 : lo2 = lo := by
      have := h2 _ g1
      have := g2 _ h1
      omega
    subst e5
    exact k _ M H (Nx.refl m) rfl) (by decide +kernel) hg (by decide) (by decide) he
end
theorem ER.as {α β : Type} {X : Cx} {G : List Sl} {e : Expr} {s : Ty α} {t : Ty β} {P : α → Prop} {P' : β → Prop} {xc : Value → Option Addr → Hp → Prop} (h : ER X G e s P xc) (q : ∀ x, P x → ∃ y, P' y ∧ ∀ M v, s.rep X.K M v x → t.rep X.K M v y) : ER X G e t P' xc := ⟨fun W S tk Q k kx =>
  h.run W S tk Q (fun x px v M' H' n r => by
    obtain ⟨y, py, f⟩ := q x px
    exact k y py v M' H' n (f M' v r)) kx⟩
/-- xs + ys, xs told by a property -/
theorem ex_cat {α : Type} {X : Cx} {G : List Sl} {a b : Expr} {s : Ty α} {ys : List α} {pos : Pos} {P : List α → Prop} (ha : EX X G a (tLst s) P) (hb : E X G b (tLst s) ys) (hz : ∀ xs, P xs → xs.length + ys.length ≤ 1000000) : EX X G (.BinOp a .Add b pos) (tLst s) (fun zs => ∃ xs, P xs ∧ zs = xs ++ ys) := ⟨fun S Q k =>
  ⟨_, pe_op op_cat pe_w pe_w, ha.run S _ fun xs px v M1 H1 n1 r1 => hb.run (S.next n1) _ fun w M2 H2 n2 r2 => by
    obtain ⟨p, vs, e1, e2, e3⟩ := r1
    obtain ⟨q, ws, f1, f2, f3⟩ := r2
    refine ⟨p, q, vs, ws, e1, f1, n2.sub _ _ (n2.vx _ _ e2), n2.sub _ _ f2, by rw [e3.length, f3.length]; exact Nat.le_trans (hz xs px) (by decide), fun r hr => ?_⟩
    have n3 := Nx.new (o := .lst (vs ++ ws)) n2.sub hr
    refine k (xs ++ ys) ⟨xs, px, rfl⟩ _ _ _ ((n1.trans n2).trans n3) ⟨r, _, rfl, upd_same, paired_app (paired_imp (fun _ _ z => s.ext (n2.vx.trans n3.vx) z) e3) (paired_imp (fun _ _ z => s.ext n3.vx z) f3)⟩⟩⟩
/-! ### what the end knows of exception classes -/
section
variable {K : Fg} {C D : Addr} {b : Bool}
theorem kit_sub (h : PySem.W.subIn K (.ref C) (.ref D) = some b) (hd : PySem.W.hasDictIn K D = true) (ht : PySem.W.typeIn K (.ref D) = some (.type "type")) (hne : C ≠ D ∨ b = true) : PySem.W.kitOne K (.ref C) (.ref D) = some b := by
  have hc : (PySem.W.clsIn K D).isSome = true := by
    unfold PySem.W.hasDictIn at hd
    cases q : PySem.W.clsIn K D with
    | none => rw [q] at hd; cases hd
    | some _ => rfl
  have e2 : ((PySem.W.clsIn K D).isSome && PySem.W.typeIn K (.ref D) == some (.type "type")) = true := by rw [hc, ht]; rfl
  have ek : PySem.W.kitCls K (.ref C) (.ref D) = some b := by
    show (if ((PySem.W.clsIn K D).isSome && PySem.W.typeIn K (.ref D) == some (.type "type")) = true then PySem.W.subIn K (.ref C) (.ref D) else none) = some b
    rw [if_pos e2]; exact h
  unfold PySem.W.kitOne
  by_cases z : (Value.ref C == Value.ref D) = true
  · rw [if_pos z]
    rcases hne with y | y
    · have := beq_iff_eq.mp z
      cases this
      exact (y rfl).elim
    · rw [y]
  · rw [if_neg z]; exact ek
theorem kit_subT {nm : String} (h : PySem.W.subIn K (.ref C) (.type nm) = some b) (hm : PySem.W.kitMeta nm = true) : PySem.W.kitOne K (.ref C) (.type nm) = some b := by
  unfold PySem.W.kitOne
  rw [if_neg (by intro z; have := beq_iff_eq.mp z; cases this)]
  show (if PySem.W.kitMeta nm = true then PySem.W.subIn K (.ref C) (.type nm) else none) = some b
  rw [if_pos hm]; exact h
end
end TL

namespace Ea
open PySem L2 TL
def top (i : Nat) : Stmt := PySem.Challenge.pw_endsalike_k09_rounds_and_reach.main.body.getD i (.Pass ⟨0, 0, 0, 0⟩)
abbrev scEndsError : Stmt := top 1
abbrev scBadBook : Stmt := top 2
abbrev sBadBook__init__ : Stmt := inClass (top 2) 0
abbrev scBadWay : Stmt := top 3
abbrev sBadWay__init__ : Stmt := inClass (top 3) 0
abbrev scNoRound : Stmt := top 4
abbrev sNoRound__init__ : Stmt := inClass (top 4) 0
abbrev scBadEnd : Stmt := top 5
abbrev scNotAnEnd : Stmt := top 6
abbrev sNotAnEnd__init__ : Stmt := inClass (top 6) 0
abbrev scBadLabel : Stmt := top 7
abbrev sBadLabel__init__ : Stmt := inClass (top 7) 0
abbrev scUncountable : Stmt := top 8
abbrev scBadStep : Stmt := top 9
abbrev sBadStep__init__ : Stmt := inClass (top 9) 0
abbrev scBadDeed : Stmt := top 10
abbrev sBadDeed__init__ : Stmt := inClass (top 10) 0
abbrev sreach_flags : Stmt := top 12
abbrev sreached_from : Stmt := top 13
abbrev sround_of : Stmt := top 15
abbrev sfrozen : Stmt := top 17
abbrev sis_whole : Stmt := top 18
abbrev sis_target : Stmt := top 20
abbrev smoved_kinds : Stmt := top 21
abbrev scBook : Stmt := top 22
abbrev sBook__init__ : Stmt := inClass (top 22) 0
abbrev sBook__eq__ : Stmt := inClass (top 22) 1
abbrev sBook__len__ : Stmt := inClass (top 22) 2
abbrev sBook__iter__ : Stmt := inClass (top 22) 3
abbrev sBook__add__ : Stmt := inClass (top 22) 4
abbrev sreaches : Stmt := top 24
abbrev s_law_whole : Stmt := top 26
abbrev s_law_cell : Stmt := top 27
abbrev s_law_digits : Stmt := top 28
abbrev s_law_book_sizes : Stmt := top 29
abbrev s_law_target : Stmt := top 30
abbrev s_law_book : Stmt := top 31
abbrev s_law_tower_sizes : Stmt := top 32
abbrev s_law_tower : Stmt := top 33
abbrev s_law_tower_target : Stmt := top 34
abbrev s_law_tidy : Stmt := top 35
abbrev s_law_ring : Stmt := top 36
abbrev s_law_knit : Stmt := top 37
abbrev s_law_twin : Stmt := top 38
abbrev s_law_order : Stmt := top 39
abbrev s_law_named : Stmt := top 40
abbrev s_law_renumbered : Stmt := top 41
abbrev s_law_reach : Stmt := top 42
abbrev s_law_steps_to : Stmt := top 43
abbrev s_law_round : Stmt := top 44
abbrev s_law_of_others : Stmt := top 45
abbrev s_law_asked_round : Stmt := top 46
abbrev s_law_sum : Stmt := top 47
abbrev s_law_picked : Stmt := top 48
abbrev s_law_flag : Stmt := top 49
abbrev s_law_same_row : Stmt := top 50
abbrev s_law_same_rows : Stmt := top 51
abbrev s_law_broad : Stmt := top 52
abbrev s_law_drawn : Stmt := top 53
abbrev s_law_pairs : Stmt := top 54
abbrev s_law_reaches_so : Stmt := top 55
abbrev s_law_rounds_so : Stmt := top 56
abbrev slaw : Stmt := top 57
structure Good (ks : List (List Int)) (n e : Int) : Prop where
  pos : 0 < ks.length
  len : (ks.length : Int) ≤ n
  row : ∀ r ∈ ks, (r.length : Int) ≤ e ∧ ∀ t ∈ r, -3 ≤ t ∧ t < ks.length
theorem Good.mono {ks : List (List Int)} {n e n' e' : Int} (h : Good ks n e) (h1 : n ≤ n') (h2 : e ≤ e') : Good ks n' e' := ⟨h.pos, by have := h.len; omega, fun r hr => ⟨by have := (h.row r hr).1; omega, (h.row r hr).2⟩⟩
theorem ix_paired {F : Int → Int → Prop} {xs ys : List Int} (p : Paired F xs ys) {i : Int} (h0 : 0 ≤ i) (h1 : i < ys.length) : F (ix xs i) (ix ys i) := by
  have hy := ix_pos (xs := ys) h0 h1
  obtain ⟨x, q, f⟩ := paired_get p hy
  have hx := ix_pos (xs := xs) h0 (by rw [p.length]; exact h1)
  rw [hx] at q; cases q; exact f
theorem ix_getElem {α : Type} [Inhabited α] {xs : List α} {i : Int} {x : α} (h0 : 0 ≤ i) (h : xs[i.toNat]? = some x) : ix xs i = x := by
  have hl := (List.getElem?_eq_some_iff.mp h).1
  have := ix_pos (xs := xs) h0 (by omega)
  rw [h] at this; exact (Option.some.inj this).symm
theorem flat_one {α : Type} (n : Nat) (x : α) : (List.replicate n [x]).flatten = List.replicate n x := by
  induction n with
  | zero => rfl
  | succ n ih => rw [List.replicate_succ, List.flatten_cons, ih, List.replicate_succ]; rfl
theorem mul_le_800 {n e : Int} (h0 : 0 ≤ n) (h1 : n ≤ 40) (h2 : 0 ≤ e) (h3 : e ≤ 20) : 0 ≤ n * e ∧ n * e ≤ 800 := by
  refine ⟨Int.mul_nonneg h0 h2, ?_⟩
  have a := Int.mul_le_mul_of_nonneg_right h1 h2
  omega
theorem cut_from {α : Type} (xs : List α) {a : Int} (h : 0 ≤ a) : cut xs (some a) none = xs.drop a.toNat := by
  unfold cut
  have e1 : HT.sIx xs.length 0 (some a) = min a.toNat xs.length := if_neg (by omega)
  have e2 : HT.sIx xs.length xs.length none = xs.length := rfl
  rw [e1, e2]
  by_cases q : a.toNat ≤ xs.length
  · rw [Nat.min_eq_left q, List.take_of_length_le (by rw [List.length_drop]; omega)]
  · rw [Nat.min_eq_right (by omega), List.drop_of_length_le (Nat.le_refl _), List.drop_of_length_le (by omega)]; simp
theorem cut_upto {α : Type} (xs : List α) {a : Int} (h : 0 ≤ a) : cut xs none (some a) = xs.take a.toNat := by
  unfold cut
  have e1 : HT.sIx xs.length xs.length (some a) = min a.toNat xs.length := if_neg (by omega)
  have e2 : HT.sIx xs.length 0 none = 0 := rfl
  rw [e1, e2, List.drop_zero, Nat.sub_zero]
  by_cases q : a.toNat ≤ xs.length
  · rw [Nat.min_eq_left q]
  · rw [Nat.min_eq_right (by omega), List.take_of_length_le (Nat.le_refl _), List.take_of_length_le (by omega)]
theorem mul_lt' {k n e j : Int} (h0 : 0 ≤ k) (h1 : k < n) (h2 : 0 ≤ j) (h3 : j < e) : 0 ≤ k * e ∧ k * e + j < n * e := by
  have a : (k + 1) * e ≤ n * e := Int.mul_le_mul_of_nonneg_right (by omega) (by omega)
  rw [Int.add_mul] at a
  have b := Int.mul_nonneg h0 (show 0 ≤ e by omega)
  omega
def rowOk (many e : Int) (r : List Int) : Prop := (r.length : Int) ≤ e ∧ ∀ t ∈ r, -3 ≤ t ∧ t < many
theorem ixSome {α : Type} [Inhabited α] {xs : List α} {i : Int} (h0 : 0 ≤ i) (h1 : i < xs.length) : xs[i.toNat]? = some (ix xs i) := ix_pos h0 h1
theorem ixNp {n : Nat} {i : Int} (h0 : 0 ≤ i) (h1 : i < n) : ixN n i = some i.toNat := by
  unfold ixN
  rw [if_pos h0, if_pos h1]
def inR (many : Int) (xs : List Int) : Prop := ∀ t ∈ xs, 0 ≤ t ∧ t < many
theorem firstN_in {i : Int} : inR i (firstN i) := fun t ht => by
  obtain ⟨k, hk, rfl⟩ := List.mem_map.mp ht
  have := List.mem_range.mp hk
  omega
theorem firstN_len (i : Int) : (firstN i).length = i.toNat := by unfold firstN; simp

theorem cut_len {α : Type} (xs : List α) (a b : Int) (h0 : 0 ≤ a) (hab : a ≤ b) : ((cut xs (some a) (some b)).length : Int) ≤ b - a := by
  unfold cut
  rw [List.length_take, List.length_drop]
  have e1 : HT.sIx xs.length 0 (some a) = min a.toNat xs.length := if_neg (by omega)
  have e2 : HT.sIx xs.length xs.length (some b) = min b.toNat xs.length := if_neg (by omega)
  rw [e1, e2]; omega
def sp_law_broad (K : Fg) : Sp := spE K (fun i : List (List Int) × List Int × Int => [.vl (tTup (tTup tI)) i.1, .vl (tLst tI) i.2.1, .vl tI i.2.2]) (fun i => Good i.1 40 20 ∧ (2 ≤ i.2.1.length ∧ i.2.1.length ≤ 1000) ∧ 0 ≤ i.2.2 ∧ i.2.2 ≤ 20) (tTup (tTup tI)) (fun i y => Good y 40 20)
section
variable {P : Program} {w : World} {K : Fg} {mg : Str → Option Value} {base : Heap}
theorem sc_law_broad : FnScope ["kinds", "row", "limit", "k", "told", "digit", "t"] ["kinds", "row", "limit"] (defScope s_law_broad) := ⟨rfl, rfl, rfl, by decide +kernel, rfl, by decide +kernel, by decide +kernel⟩
theorem ok_law_broad {f : Addr} {fd : FuncData} (F : Fun K "_law_broad" "_law_broad" s_law_broad f fd) (b : Bi mg) : FnOk P w K mg base CX0 1 f fd ["kinds", "row", "limit"] (sp_law_broad K) := by
  refine fn_okE F sc_law_broad 4 rfl (fun _ => rfl) (fun cdv A outer s H E hr ⟨kinds, row, limit⟩ hp => ?_)
  dsimp only at hp ⊢
  obtain ⟨hg, ⟨r0, r1⟩, l0, l1⟩ := hp
  have hpos := hg.pos
  have hlen := hg.len
  refine b_cons (s_set 3 (e_mod (e_intI b.int (e_ixL (e_var 1) e_int (atI_ix (by omega) (by omega)))) (e_div (e_add (e_lenT b.len (e_var 0)) e_int) e_int (by omega)) (by omega)) ?_ sc_law_broad.nd)
  have a1 := Int.emod_nonneg (ix row 1) (show ((kinds.length : Int) + 1) / 2 ≠ 0 by omega)
  have a2 := Int.emod_lt_of_pos (ix row 1) (show 0 < ((kinds.length : Int) + 1) / 2 by omega)
  generalize ix row 1 % (((kinds.length : Int) + 1) / 2) = k at a1 a2 ⊢
  have hk : k < kinds.length := by omega
  refine b_cons (s_if (t_cv (e_ixL (e_var 1) e_int (atI_ix (by omega) (by omega))) e_int cv_gt) (fun h => ?_) (fun h => b_nil ?_))
  · exact b_cons (s_ret (e_tupT b.tuple (e_var 0)) (fun M v r => ⟨kinds, hg, r⟩))
  · have hrow := hg.row _ (ix_mem (xs := kinds) (i := k) a1 hk)
    refine b_cons (s_own 4 (el_listT b.list (e_ixT (e_var 0) (e_var 3) (atI_ix (by omega) hk))) ?_ sc_law_broad.nd)
    generalize hl0 : (ix kinds k).length = n0 at hrow
    have hmx : 0 ≤ (if limit - (n0 : Int) > 0 then limit - (n0 : Int) else 0) ∧ (n0 : Int) + (if limit - (n0 : Int) > 0 then limit - (n0 : Int) else 0) ≤ 20 := by split <;> omega
    refine b_cons (s_forL 5 (fun m G' => ∃ told : List Int, (told.length = n0 + m ∧ ∀ t ∈ told, -3 ≤ t ∧ t < kinds.length) ∧ G' = [.vl (tTup (tTup tI)) kinds, .vl (tLst tI) row, .vl tI limit, .vl tI k, .ow tI told, .un, .un]) _ (xs := cut row (some 2) (some (2 + (if limit - (n0 : Int) > 0 then limit - (n0 : Int) else 0)))) (by rw [← hl0]; exact EL.toE (el_read 4 rfl imm_I (el_slice (e_var 1) (eo_some e_int) (eo_some (e_add e_int (e_max rfl b.max e_int (e_sub (e_var 2) (e_lenL b.len (e_var 4))))))))) (Sub.refl _) ⟨_, ⟨by omega, hrow.2⟩, rfl⟩ ?_ ?_ sc_law_broad.nd rfl)
    · rintro m d _ hd ⟨told, ⟨htl, hti⟩, rfl⟩
      have b1 := Int.emod_nonneg d (show (kinds.length : Int) + 3 ≠ 0 by omega)
      have b2 := Int.emod_lt_of_pos d (show 0 < (kinds.length : Int) + 3 by omega)
      have c1 := Int.emod_nonneg (d / 50) (show (3 : Int) ≠ 0 by omega)
      have c2 := Int.emod_lt_of_pos (d / 50) (show (0 : Int) < 3 by omega)
      have hml := cut_len row 2 (2 + (if limit - (n0 : Int) > 0 then limit - (n0 : Int) else 0)) (by omega) (by omega)
      have hmm := (List.getElem?_eq_some_iff.mp hd).1
      refine b_cons (s_set 6 (e_sub (e_mod (e_intI b.int (e_var 5)) (e_add (e_lenT b.len (e_var 0)) e_int) (by omega)) e_int) ?_ sc_law_broad.nd)
      refine b_cons (s_app 4 rfl (e_ixL (EL.toE (el_lst (eh_cons (e_var 6) (eh_cons (e_sub (e_neg e_int) (e_mod (e_div (e_intI b.int (e_var 5)) e_int (by omega)) e_int (by omega))) eh_nil)))) (e_intB b.int (e_chain e_int (e_var 6) (e_var 3) cv_le (fun _ => cv_le) (r0 := ⟨_, op_le⟩))) (atI_ix (by split <;> (simp only [List.length_cons, List.length_nil]; omega)) (by split <;> (simp only [List.length_cons, List.length_nil]; omega)))) (by omega) ?_)
      refine B.weak (b_nil ⟨_, ⟨by rw [List.length_append, htl]; simp; omega, fun t ht => ?_⟩, rfl⟩) (.same (.same (.same (.same (.same (.un (.un .nil)))))))
      rcases List.mem_append.mp ht with z | z
      · exact hti t z
      · rw [List.mem_singleton.mp z]
        split
        · rw [ix_getElem (x := -1 - d / 50 % 3) (by omega) rfl]; omega
        · rw [ix_getElem (x := d % ((kinds.length : Int) + 3) - 3) (by omega) rfl]; omega
    · rintro _ ⟨told, ⟨htl, hti⟩, rfl⟩
      have hml := cut_len row 2 (2 + (if limit - (n0 : Int) > 0 then limit - (n0 : Int) else 0)) (by omega) (by omega)
      have e1 := cut_upto kinds a1
      have e2 := cut_from kinds (show 0 ≤ k + 1 by omega)
      refine b_cons (s_ret (e_read 4 rfl (imm_T (imm_T imm_I)) (e_catA (e_catA (e_tupT b.tuple (e_sliceT (e_var 0) eo_none (eo_some (e_var 3)))) (e_tup (eh_cons (e_tupL b.tuple (e_var 4)) eh_nil)) (by rw [e1, List.length_take]; simp only [List.length_cons, List.length_nil]; omega)) (e_tupT b.tuple (e_sliceT (e_var 0) (eo_some (e_add (e_var 3) e_int)) eo_none)) (by rw [e1, e2, List.length_append, List.length_take, List.length_drop]; simp only [List.length_cons, List.length_nil]; omega))) (fun M v r => ⟨_, ?_, r⟩))
      rw [e1, e2]
      have hl : (kinds.take k.toNat ++ [told] ++ kinds.drop (k + 1).toNat).length = kinds.length := by
        simp only [List.length_append, List.length_take, List.length_drop, List.length_cons, List.length_nil]; omega
      refine ⟨by rw [hl]; exact hpos, by rw [hl]; exact hlen, fun r hr' => ?_⟩
      rw [hl]
      rcases List.mem_append.mp hr' with z | z
      · rcases List.mem_append.mp z with z | z
        · exact hg.row r (List.mem_of_mem_take z)
        · rw [List.mem_singleton.mp z]; exact ⟨by omega, hti⟩
      · exact hg.row r (List.mem_of_mem_drop z)
end

def rowsOk (many e : Int) (rs : List (List Int)) : Prop := (rs.length : Int) = many ∧ ∀ r ∈ rs, rowOk many e r
theorem Good.rows {ks : List (List Int)} {n e : Int} (h : Good ks n e) : rowsOk (ks.length : Int) e ks := ⟨rfl, h.row⟩
theorem rows_good {ks : List (List Int)} {many n e : Int} (h : rowsOk many e ks) (h0 : 0 < many) (h1 : many ≤ n) : Good ks n e := ⟨by have := h.1; omega, by have := h.1; omega, fun r hr => ⟨(h.2 r hr).1, fun t ht => by have := (h.2 r hr).2 t ht; have := h.1; omega⟩⟩
def sp_law_tidy (K : Fg) : Sp := spN K (fun i : List (List Int) => [.vl (tLst (tTup tI)) i]) (fun i => ∃ many, many ≤ 1000 ∧ rowsOk many 1000 i) (tTup tI) (fun i y => ∀ many e, e ≤ 1000 → rowsOk many e i → rowsOk many e y)
section
variable {P : Program} {w : World} {K : Fg} {mg : Str → Option Value} {base : Heap}
theorem sc_law_tidy : FnScope ["kinds", "t", "k"] ["kinds"] (defScope s_law_tidy) := ⟨rfl, rfl, rfl, by decide +kernel, rfl, by decide +kernel, by decide +kernel⟩
theorem ok_law_tidy {f : Addr} {fd : FuncData} (F : Fun K "_law_tidy" "_law_tidy" s_law_tidy f fd) (b : Bi mg)  : FnOk P w K mg base CX0 1 f fd ["kinds"] (sp_law_tidy K) := by
  refine fn_okN F sc_law_tidy 2 rfl (fun _ => rfl) (fun cdv A outer s H E hr kinds hp => ?_)
  obtain ⟨many, hm0, hm⟩ := hp
  have hl := hm.1
  refine bn_ret (EL.toX (el_lc (lc_R (f := fun k : Nat => (ix kinds (k : Int)).filter fun t => decide (t < 0) || decide ((k : Int) ≤ t)) (own := [("k", 2)]) b.range (e_lenL b.len (e_var 0)) (by omega) 2 (fun s0 H C cl fp m hx => TL.E.is (e_tupL b.tuple (EL.toE (el_lc (lc_TF (f := fun x => x) (own := [("t", 1)]) (e_ixL (e_var 0) (e_var 2) (atI_ix (by omega) (by omega))) 1 (fun s0 H C cl fp m x hx => (TW.toT (w_or (t_cv (e_var 1) e_int cv_lt) (fun h => (w_or1 (t_cv (e_var 1) (e_var 2) cv_ge)))))) (fun s0 H C cl fp m x hx hd => (e_var 1)) (blkIn (N := ["kinds", "t", "k"]) (by decide +kernel)) (by have := (hm.2 _ (ix_mem (xs := kinds) (i := (m : Int)) (by omega) (by omega))).1; omega) (fun _ _ _ _ _ => pg_name sc_law_tidy.nd rfl (by first | exact Or.inl rfl | exact Or.inr rfl))) rfl sc_law_tidy.nd))) (List.map_id' _)) (blkOk_by (N := ["kinds", "t", "k"]) (sc := defScope s_law_tidy) (by decide +kernel)) (fun _ _ _ _ _ => pg_name sc_law_tidy.nd rfl (by first | exact Or.inl rfl | exact Or.inr rfl))) rfl sc_law_tidy.nd) ?_)
  intro mn e he hmn
  refine ⟨by rw [List.length_map, List.length_range, Int.toNat_natCast]; exact hmn.1, fun r hr => ?_⟩
  obtain ⟨k, hk, rfl⟩ := List.mem_map.mp hr
  have hk := List.mem_range.mp hk
  have q := hmn.2 _ (ix_mem (xs := kinds) (i := (k : Int)) (by omega) (by omega))
  refine ⟨?_, fun t ht => q.2 t (List.mem_filter.mp ht).1⟩
  have := List.length_filter_le (fun t => decide (t < 0) || decide ((k : Int) ≤ t)) (ix kinds (k : Int))
  have := q.1
  omega
end

def sp_law_ring (K : Fg) : Sp := spN K (fun i : List (List Int) × Int × Int × Int => [.vl (tLst (tTup tI)) i.1, .vl tI i.2.1, .vl tI i.2.2.1, .vl tI i.2.2.2]) (fun i => (i.1.length ≤ 1000 ∧ rowsOk i.1.length 900 i.1) ∧ 0 ≤ i.2.1 ∧ i.2.1 ≤ i.2.2.1 ∧ i.2.2.1 < i.1.length) (tTup tI) (fun i y => ∀ many e, rowsOk many e i.1 → rowsOk many (e + 1) y)
section
variable {P : Program} {w : World} {K : Fg} {mg : Str → Option Value} {base : Heap}
theorem sc_law_ring : FnScope ["kinds", "first", "last", "place", "told", "k", "kept", "t", "at"] ["kinds", "first", "last", "place"] (defScope s_law_ring) := ⟨rfl, rfl, rfl, by decide +kernel, rfl, by decide +kernel, by decide +kernel⟩
theorem ok_law_ring {f : Addr} {fd : FuncData} (F : Fun K "_law_ring" "_law_ring" s_law_ring f fd) (b : Bi mg)  : FnOk P w K mg base CX0 1 f fd ["kinds", "first", "last", "place"] (sp_law_ring K) := by
  refine fn_okN F sc_law_ring 5 rfl (fun _ => rfl) (fun cdv A outer s H E hr ⟨kinds, first, last, place⟩ hp => ?_)
  dsimp only at hp ⊢
  obtain ⟨⟨hl, hrw⟩, f0, f1, f2⟩ := hp
  refine bn_cons (s_own 4 (el_listL b.list (e_var 0)) ?_ sc_law_ring.nd)
  refine bn_cons (s_forR2 5 (fun m G' => ∃ told : List (List Int), (told.length = kinds.length ∧ ∀ many e, rowsOk many e kinds → ∀ r ∈ told, rowOk many (e + 1) r) ∧ G' = [.vl (tLst (tTup tI)) kinds, .vl tI first, .vl tI last, .vl tI place, .ow (tTup tI) told, .un, .un, .un, .un]) _ b.range (e_var 1) (e_add (e_var 2) e_int) (by omega) (Sub.refl _) ⟨kinds, ⟨rfl, fun many e h r hr => ⟨by have := (h.2 r hr).1; omega, (h.2 r hr).2⟩⟩, rfl⟩ ?_ ?_ sc_law_ring.nd rfl)
  · rintro m _ hm ⟨told, ⟨htl, htr⟩, rfl⟩
    have hk0 := hrw.2 _ (ix_mem (xs := kinds) (i := first + (m : Int)) (by omega) (by omega))
    have hk0l := hk0.1
    refine b_cons (s_lc 6 (lc_TF (f := fun x => x) (own := [("t", 7)]) (e_ixL (e_var 0) (e_var 5) (atI_ix (by omega) (by omega))) 7 (fun s0 H C cl fp m x hx => (TW.toT (w_or (t_cv (e_var 7) e_int cv_lt) (fun h => (w_or1 (t_cv (e_var 7) (e_var 2) cv_gt)))))) (fun s0 H C cl fp m x hx hd => (e_var 7)) (blkOk_by (N := ["kinds", "first", "last", "place", "told", "k", "kept", "t", "at"]) (sc := defScope s_law_ring) (by decide +kernel)) (by omega) (fun _ _ _ _ _ => pg_name sc_law_ring.nd rfl (by first | exact Or.inl rfl | exact Or.inr rfl))) ?_ rfl sc_law_ring.nd)
    rw [List.map_id']
    have hkl := List.length_filter_le (fun t => decide (t < 0) || decide (last < t)) (ix kinds (first + (m : Int)))
    have hkm : ∀ t ∈ (ix kinds (first + (m : Int))).filter (fun t => decide (t < 0) || decide (last < t)), t ∈ ix kinds (first + (m : Int)) := fun t ht => (List.mem_filter.mp ht).1
    generalize (ix kinds (first + (m : Int))).filter (fun t => decide (t < 0) || decide (last < t)) = kept at hkl hkm ⊢
    refine b_freeze 6 rfl ?_
    refine b_cons (s_set 8 (e_mod (e_intI b.int (e_var 3)) (e_add (e_lenL b.len (e_var 6)) e_int) (by omega)) ?_ sc_law_ring.nd)
    have a1 := Int.emod_nonneg place (show (kept.length : Int) + 1 ≠ 0 by omega)
    generalize place % ((kept.length : Int) + 1) = at' at a1 ⊢
    have c1 := cut_upto kept a1
    have c2 := cut_from kept a1
    have b1 := Int.emod_nonneg (first + (m : Int) + 1 - first) (show last + 1 - first ≠ 0 by omega)
    have b2 := Int.emod_lt_of_pos (first + (m : Int) + 1 - first) (show 0 < last + 1 - first by omega)
    refine b_cons (s_seti 4 (m := (first + (m : Int)).toNat) rfl (e_tupL b.tuple (EL.toE (el_cat (EL.toE (el_cat (EL.toE (el_slice (e_var 6) eo_none (eo_some (e_var 8)))) (EL.toE (el_lst (eh_cons (e_add (e_var 1) (e_mod (e_intI b.int (e_sub (e_add (e_var 5) e_int) (e_var 1))) (e_sub (e_add (e_var 2) e_int) (e_var 1)) (by omega))) eh_nil))) (by rw [c1, List.length_take]; simp only [List.length_cons, List.length_nil]; omega))) (EL.toE (el_slice (e_var 6) (eo_some (e_var 8)) eo_none)) (by rw [c1, c2, List.length_append, List.length_take, List.length_drop]; simp only [List.length_cons, List.length_nil]; omega)))) (e_var 5) (ixNp (by omega) (by omega)) ?_)
    rw [c1, c2]
    refine B.weak (b_nil ⟨_, ⟨by rw [List.length_set]; exact htl, fun many e h r hr => ?_⟩, rfl⟩) (.same (.same (.same (.same (.same (.un (.un (.un (.un .nil)))))))))
    rcases List.mem_or_eq_of_mem_set hr with z | z
    · exact htr many e h r z
    · rw [z]
      have hq := h.2 _ (ix_mem (xs := kinds) (i := first + (m : Int)) (by omega) (by omega))
      have hq1 := hq.1
      have hq0 := h.1
      refine ⟨by simp only [List.length_append, List.length_take, List.length_drop, List.length_cons, List.length_nil]; omega, fun t ht => ?_⟩
      rcases List.mem_append.mp ht with y | y
      · rcases List.mem_append.mp y with y | y
        · exact hq.2 t (hkm t (List.mem_of_mem_take y))
        · rw [List.mem_singleton.mp y]; omega
      · exact hq.2 t (hkm t (List.mem_of_mem_drop y))
  · rintro _ ⟨told, ⟨htl, htr⟩, rfl⟩
    exact bn_retOwn 4 rfl (fun many e h => ⟨by rw [htl]; exact h.1, htr many e h⟩)
end

structure KnitRow (row : List Int) : Prop where
  len : 19 ≤ row.length
  h1 : 0 ≤ ix row 1 ∧ ix row 1 < 4
  h9 : ∀ k : Int, 0 ≤ k → k < 3 → 0 ≤ ix row (9 + 4 * k) ∧ ix row (9 + 4 * k) < 3
theorem rowsOk.mono {many e e' : Int} {rs : List (List Int)} (h : rowsOk many e rs) (q : e ≤ e') : rowsOk many e' rs := ⟨h.1, fun r hr => ⟨by have := (h.2 r hr).1; omega, (h.2 r hr).2⟩⟩
theorem rowsOk.set {many e : Int} {rs : List (List Int)} {r : List Int} (h : rowsOk many e rs) (k : Nat) (q : rowOk many e r) : rowsOk many e (rs.set k r) := ⟨by rw [List.length_set]; exact h.1, fun x hx => by
  rcases List.mem_or_eq_of_mem_set hx with z | z
  · exact h.2 x z
  · rw [z]; exact q⟩
def sp_law_knit (K : Fg) : Sp := spE K (fun i : List (List Int) × List Int => [.vl (tTup (tTup tI)) i.1, .vl (tLst tI) i.2]) (fun i => Good i.1 40 4 ∧ KnitRow i.2) (tTup (tTup tI)) (fun i y => Good y 40 20)
section
variable {P : Program} {w : World} {K : Fg} {mg : Str → Option Value} {base : Heap}
theorem sc_law_knit : FnScope ["kinds", "row", "told", "many", "k", "first", "last", "a", "b"] ["kinds", "row"] (defScope s_law_knit) := ⟨rfl, rfl, rfl, by decide +kernel, rfl, by decide +kernel, by decide +kernel⟩
theorem ok_law_knit {f : Addr} {fd : FuncData} (F : Fun K "_law_knit" "_law_knit" s_law_knit f fd) (b : Bi mg) (C_law_tidy : Fn P w K mg base CX0 1 "_law_tidy" ["kinds"] (sp_law_tidy K)) (C_law_ring : Fn P w K mg base CX0 1 "_law_ring" ["kinds", "first", "last", "place"] (sp_law_ring K)) : FnOk P w K mg base CX0 2 f fd ["kinds", "row"] (sp_law_knit K) := by
  refine fn_okE F sc_law_knit 7 rfl (fun _ => rfl) (fun cdv A outer s H E hr ⟨kinds, row⟩ hp => ?_)
  dsimp only at hp ⊢
  obtain ⟨hg, hrl, h1, h9⟩ := hp
  have hpos := hg.pos
  have hlen := hg.len
  refine b_cons (s_own 2 (el_listT b.list (e_var 0)) ?_ sc_law_knit.nd)
  refine b_cons (s_set 3 (e_read 2 rfl imm_I (e_lenL b.len (e_var 2))) ?_ sc_law_knit.nd)
  refine b_cut (fun G' => ∃ told : List (List Int), rowsOk (kinds.length : Int) 4 told ∧ G' = [.vl (tTup (tTup tI)) kinds, .vl (tLst tI) row, .ow (tTup tI) told, .vl tI (kinds.length : Int), .un, .un, .un, .un, .un]) (s_if (t_cv (e_ixL (e_var 1) e_int (atI_ix (by omega) (by omega))) e_int cv_gt) (fun h => ?_) (fun h => ?_)) ?_
  · refine b_freeze 2 rfl ?_
    refine b_cons (s_ownX 2 (elx_call C_law_tidy (hr.mono (by decide)) (EA.toX (ea_cons (e_var 2) ea_nil)) (P := fun y => rowsOk (kinds.length : Int) 4 y) (fun ss hss => ⟨kinds, hss.symm, ⟨kinds.length, by omega, hg.rows.mono (by omega)⟩, fun y hy => hy _ _ (by omega) hg.rows⟩)) (fun told ht => b_nil ⟨told, ht, rfl⟩) sc_law_knit.nd)
  · exact b_nil ⟨kinds, hg.rows, rfl⟩
  rintro _ ⟨told, ht, rfl⟩
  refine b_cons (s_forR 4 (fun m G' => ∃ told : List (List Int), rowsOk (kinds.length : Int) (4 + m) told ∧ G' = [.vl (tTup (tTup tI)) kinds, .vl (tLst tI) row, .ow (tTup tI) told, .vl tI (kinds.length : Int), .un, .un, .un, .un, .un]) _ b.range (e_ixL (e_var 1) e_int (atI_ix (by omega) (by omega))) (by omega) (Sub.refl _) ⟨told, ht.mono (by omega), rfl⟩ ?_ ?_ sc_law_knit.nd rfl)
  · rintro m _ hm ⟨told, ht, rfl⟩
    have htl := ht.1
    have hq := h9 (m : Int) (by omega) (by omega)
    refine b_cons (s_set 5 (e_mod (e_intI b.int (e_ixL (e_var 1) (e_add e_int (e_mulL e_int (e_var 4) (by decide))) (atI_ix (by omega) (by omega)))) (e_var 3) (by omega)) ?_ sc_law_knit.nd)
    have f1 := Int.emod_nonneg (ix row (7 + 4 * (m : Int))) (show (kinds.length : Int) ≠ 0 by omega)
    have f2 := Int.emod_lt_of_pos (ix row (7 + 4 * (m : Int))) (show 0 < (kinds.length : Int) by omega)
    generalize ix row (7 + 4 * (m : Int)) % (kinds.length : Int) = first at f1 f2 ⊢
    have hv : 0 < ix ([2, 5, 40] : List Int) (ix row (9 + 4 * (m : Int))) := by
      have : ix row (9 + 4 * (m : Int)) = 0 ∨ ix row (9 + 4 * (m : Int)) = 1 ∨ ix row (9 + 4 * (m : Int)) = 2 := by omega
      rcases this with z | z | z <;> rw [z] <;> decide
    have hmn : 0 < (if ix ([2, 5, 40] : List Int) (ix row (9 + 4 * (m : Int))) < (kinds.length : Int) - first then ix ([2, 5, 40] : List Int) (ix row (9 + 4 * (m : Int))) else (kinds.length : Int) - first) ∧ (if ix ([2, 5, 40] : List Int) (ix row (9 + 4 * (m : Int))) < (kinds.length : Int) - first then ix ([2, 5, 40] : List Int) (ix row (9 + 4 * (m : Int))) else (kinds.length : Int) - first) ≤ (kinds.length : Int) - first := by split <;> omega
    refine b_cons (s_set 6 (e_add (e_var 5) (e_mod (e_intI b.int (e_ixL (e_var 1) (e_add e_int (e_mulL e_int (e_var 4) (by decide))) (atI_ix (by omega) (by omega)))) (e_min rfl b.min (e_sub (e_var 3) (e_var 5)) (e_ixL (EL.toE (el_lst (eh_cons e_int (eh_cons e_int (eh_cons e_int eh_nil))))) (e_ixL (e_var 1) (e_add e_int (e_mulL e_int (e_var 4) (by decide))) (atI_ix (by omega) (by omega))) (atI_ix (by omega) (by simp only [List.length_cons, List.length_nil]; omega)))) hmn.1)) ?_ sc_law_knit.nd)
    generalize (if ix ([2, 5, 40] : List Int) (ix row (9 + 4 * (m : Int))) < (kinds.length : Int) - first then ix ([2, 5, 40] : List Int) (ix row (9 + 4 * (m : Int))) else (kinds.length : Int) - first) = q at hmn ⊢
    have l1 := Int.emod_nonneg (ix row (8 + 4 * (m : Int))) (show q ≠ 0 by omega)
    have l2 := Int.emod_lt_of_pos (ix row (8 + 4 * (m : Int))) hmn.1
    generalize ix row (8 + 4 * (m : Int)) % q = d at l1 l2 ⊢
    refine b_freeze 2 rfl ?_
    refine b_cons (s_ownX 2 (elx_call C_law_ring (hr.mono (by decide)) (EA.toX (ea_cons (e_var 2) (ea_cons (e_var 5) (ea_cons (e_var 6) (ea_cons (e_ixL (e_var 1) (e_add e_int (e_mulL e_int (e_var 4) (by decide))) (atI_ix (by omega) (by omega))) ea_nil))))) (P := fun y => rowsOk (kinds.length : Int) (4 + m + 1) y) (fun ss hss => ⟨(told, first, first + d, ix row (10 + 4 * (m : Int))), hss.symm, ⟨⟨by dsimp only; omega, by dsimp only; rw [htl]; exact ht.mono (by omega)⟩, by dsimp only; omega, by dsimp only; omega, by dsimp only; omega⟩, fun y hy => hy _ _ ht⟩)) (fun told2 ht2 => ?_) sc_law_knit.nd)
    exact B.weak (b_nil ⟨told2, ht2.mono (by omega), rfl⟩) (.same (.same (.same (.same (.un (.un (.un (.un (.un .nil)))))))))
  · rintro _ ⟨told, ht, rfl⟩
    have ht : rowsOk (kinds.length : Int) 7 told := ht.mono (by omega)
    have htl := ht.1
    refine b_cut (fun G' => ∃ (told : List (List Int)) (a : Sl), rowsOk (kinds.length : Int) 8 told ∧ G' = [.vl (tTup (tTup tI)) kinds, .vl (tLst tI) row, .ow (tTup tI) told, .vl tI (kinds.length : Int), .un, .un, .un, a, .un]) (s_if (t_cv (e_ixL (e_var 1) e_int (atI_ix (by omega) (by omega))) e_int cv_lt) (fun h => ?_) (fun h => ?_)) ?_
    · refine b_cons (s_set 7 (e_mod (e_intI b.int (e_ixL (e_var 1) e_int (atI_ix (by omega) (by omega)))) (e_var 3) (by omega)) ?_ sc_law_knit.nd)
      have a1 := Int.emod_nonneg (ix row 3) (show (kinds.length : Int) ≠ 0 by omega)
      have a2 := Int.emod_lt_of_pos (ix row 3) (show 0 < (kinds.length : Int) by omega)
      generalize ix row 3 % (kinds.length : Int) = a at a1 a2 ⊢
      have c1 := Int.emod_nonneg (ix row 4) (show (kinds.length : Int) ≠ 0 by omega)
      have c2 := Int.emod_lt_of_pos (ix row 4) (show 0 < (kinds.length : Int) by omega)
      have hrow := ht.2 _ (ix_mem (xs := told) (i := a) (by omega) (by omega))
      have hrl := hrow.1
      refine b_cons (s_seti 2 (m := a.toNat) rfl (e_read 2 rfl (imm_T imm_I) (e_catA (e_ixL (e_var 2) (e_var 7) (atI_ix (by omega) (by omega))) (e_tup (eh_cons (e_mod (e_intI b.int (e_ixL (e_var 1) e_int (atI_ix (by omega) (by omega)))) (e_var 3) (by omega)) eh_nil)) (by simp only [List.length_cons, List.length_nil]; omega))) (e_var 7) (ixNp (by omega) (by omega)) ?_)
      refine b_nil ⟨_, _, (ht.mono (by omega)).set _ ⟨by simp only [List.length_append, List.length_cons, List.length_nil]; omega, fun t ht' => ?_⟩, rfl⟩
      rcases List.mem_append.mp ht' with z | z
      · exact hrow.2 t z
      · rw [List.mem_singleton.mp z]; omega
    · exact b_nil ⟨told, _, ht.mono (by omega), rfl⟩
    rintro _ ⟨told, sa, ht, rfl⟩
    have htl := ht.1
    refine b_cut (fun G' => ∃ (told : List (List Int)) (a c : Sl), rowsOk (kinds.length : Int) 20 told ∧ G' = [.vl (tTup (tTup tI)) kinds, .vl (tLst tI) row, .ow (tTup tI) told, .vl tI (kinds.length : Int), .un, .un, .un, a, c]) (s_if (t_cv (e_ixL (e_var 1) e_int (atI_ix (by omega) (by omega))) e_int cv_eqI) (fun h => ?_) (fun h => ?_)) ?_
    · refine b_cons (s_set 8 (e_mod (e_intI b.int (e_ixL (e_var 1) e_int (atI_ix (by omega) (by omega)))) (e_var 3) (by omega)) ?_ sc_law_knit.nd)
      have a1 := Int.emod_nonneg (ix row 6) (show (kinds.length : Int) ≠ 0 by omega)
      have a2 := Int.emod_lt_of_pos (ix row 6) (show 0 < (kinds.length : Int) by omega)
      generalize ix row 6 % (kinds.length : Int) = a at a1 a2 ⊢
      have hrow := ht.2 _ (ix_mem (xs := told) (i := a) (by omega) (by omega))
      have hrl := hrow.1
      refine b_cons (s_seti 2 (m := a.toNat) rfl (e_read 2 rfl (imm_T imm_I) (e_tupL b.tuple (EL.toE (el_slice (EL.toE (el_rep (EL.toE (el_listT b.list (e_ixL (e_var 2) (e_var 8) (atI_ix (by omega) (by omega))))) e_int (by decide) (by show _ * 20 ≤ _; omega))) eo_none (eo_some e_int))))) (e_var 8) (ixNp (by omega) (by omega)) ?_)
      refine b_nil ⟨_, _, _, (ht.mono (by omega)).set _ ?_, rfl⟩
      rw [cut_upto _ (by decide)]
      refine ⟨by rw [List.length_take]; omega, fun t ht' => ?_⟩
      obtain ⟨l, hl, ht2⟩ := List.mem_flatten.mp (List.mem_of_mem_take ht')
      rw [List.eq_of_mem_replicate hl] at ht2
      exact hrow.2 t ht2
    · exact b_nil ⟨told, _, _, ht.mono (by omega), rfl⟩
    rintro _ ⟨told, sa, sc, ht, rfl⟩
    exact b_cons (s_ret (e_read 2 rfl (imm_T (imm_T imm_I)) (e_tupL b.tuple (e_var 2))) (fun M v r => ⟨told, rows_good ht (by omega) (by omega), r⟩))
end

def namedM (t : Int) (place : List Int) : Int := if decide (t < 0) = true then t else ix place t
def sp_law_named (K : Fg) : Sp := spG K (fun i : Int × List Int => [.vl tI i.1, .vl (tLst tI) i.2]) (fun i => i.1 < i.2.length) tI (fun i => namedM i.1 i.2)
section
variable {P : Program} {w : World} {K : Fg} {mg : Str → Option Value} {base : Heap}
theorem sc_law_named : FnScope ["t", "place"] ["t", "place"] (defScope s_law_named) := ⟨rfl, rfl, rfl, by decide +kernel, rfl, by decide +kernel, by decide +kernel⟩
theorem ok_law_named {f : Addr} {fd : FuncData} (F : Fun K "_law_named" "_law_named" s_law_named f fd) (b : Bi mg)  : FnOk P w K mg base CX0 1 f fd ["t", "place"] (sp_law_named K) := by
  refine fn_ok F sc_law_named 0 rfl (fun _ => rfl) (fun cdv A outer s H E hr ⟨t, place⟩ hp => ?_)
  dsimp only at hp ⊢
  refine b_cons (s_if (t_cv (e_var 0) e_int cv_lt) (fun h1 => ?_) (fun h1 => ?_))
  · refine b_cons (s_ret (e_var 0) (fun M v r => ?_))
    exact ret_is r (by unfold namedM; rw [if_pos h1])
  · have h1p := of_decide_eq_false h1
    refine b_nil ?_
    refine b_cons (s_ret (e_ixL (e_var 1) (e_var 0) (atI_ix (by omega) (by omega))) (fun M v r => ?_))
    exact ret_is r (by unfold namedM; rw [if_neg (nt h1)])
end

def sp_law_renumbered (K : Fg) : Sp := spE K (fun i : List (List Int) × List Int => [.vl (tTup (tTup tI)) i.1, .vl (tLst tI) i.2]) (fun i => Good i.1 1000 1000 ∧ i.2.length = i.1.length ∧ inR i.1.length i.2) (tTup (tTup tI)) (fun i y => y.length = i.1.length ∧ ∀ n e : Int, e ≤ 1000 → Good i.1 n e → Good y n e)
section
variable {P : Program} {w : World} {K : Fg} {mg : Str → Option Value} {base : Heap}
theorem sc_law_renumbered : FnScope ["kinds", "order", "place", "k", "t"] ["kinds", "order"] (defScope s_law_renumbered) := ⟨rfl, rfl, rfl, by decide +kernel, rfl, by decide +kernel, by decide +kernel⟩
theorem ok_law_renumbered {f : Addr} {fd : FuncData} (F : Fun K "_law_renumbered" "_law_renumbered" s_law_renumbered f fd) (b : Bi mg) (C_law_named : Fn P w K mg base CX0 1 "_law_named" ["t", "place"] (sp_law_named K)) : FnOk P w K mg base CX0 2 f fd ["kinds", "order"] (sp_law_renumbered K) := by
  refine fn_okE F sc_law_renumbered 3 rfl (fun _ => rfl) (fun cdv A outer s H E hr ⟨kinds, order⟩ hp => ?_)
  dsimp only at hp ⊢
  obtain ⟨hg, hol, hoi⟩ := hp
  have hpos := hg.pos
  have hlen := hg.len
  refine b_cons (s_own 2 (el_rep (EL.toE (el_lst (eh_cons e_int eh_nil))) (e_lenT b.len (e_var 0)) (by omega) (by simp only [List.length_cons, List.length_nil]; omega)) ?_ sc_law_renumbered.nd)
  rw [flat_one, Int.toNat_natCast]
  refine b_cons (s_forR 3 (fun m G' => ∃ place : List Int, (place.length = kinds.length ∧ inR kinds.length place) ∧ G' = [.vl (tTup (tTup tI)) kinds, .vl (tLst tI) order, .ow tI place, .un, .un]) _ b.range (e_lenL b.len (e_var 1)) (by omega) (Sub.refl _) ⟨_, ⟨List.length_replicate, fun t ht => by rw [List.eq_of_mem_replicate ht]; omega⟩, rfl⟩ ?_ ?_ sc_law_renumbered.nd rfl)
  · rintro m _ hm ⟨place, ⟨hpl, hpi⟩, rfl⟩
    have ho := hoi _ (ix_mem (xs := order) (i := (m : Int)) (by omega) (by omega))
    refine b_cons (s_seti 2 (m := (ix order (m : Int)).toNat) rfl (e_var 3) (e_ixL (e_var 1) (e_var 3) (atI_ix (by omega) (by omega))) (ixNp (by omega) (by omega)) ?_)
    refine B.weak (b_nil ⟨_, ⟨by rw [List.length_set]; exact hpl, fun t ht => ?_⟩, rfl⟩) (.same (.same (.same (.un (.un .nil)))))
    rcases List.mem_or_eq_of_mem_set ht with z | z
    · exact hpi t z
    · rw [z]; omega
  · rintro _ ⟨place, ⟨hpl, hpi⟩, rfl⟩
    refine b_freeze 2 rfl ?_
    have hrow : ∀ (j : Nat) (x : Int), order[j]? = some x → ∀ t ∈ ix kinds x, -3 ≤ t ∧ t < kinds.length := fun j x hx t ht => by
      have ho := hoi x (List.mem_of_getElem? hx)
      exact (hg.row _ (ix_mem ho.1 ho.2)).2 t ht
    refine b_cons (s_ret (e_tupL b.tuple (EL.toE (el_lc (lc_L (f := fun x : Int => (ix kinds x).map fun t => namedM t place) (own := [("k", 3)]) (e_var 1) 3 (fun s0 H C cl fp m x hx => (e_tupL b.tuple (EL.toE (el_lc (lc_T (f := fun t => namedM t place) (xs := ix kinds x) (own := [("t", 4)]) (e_ixT (e_var 0) (e_var 3) (atI_ix (by have := hoi x (List.mem_of_getElem? hx); omega) (by have := hoi x (List.mem_of_getElem? hx); omega))) 4 (fun s0 H C cl fp j t ht => e_call C_law_named (hr.mono (by decide)) (t, place) (ea_cons (e_var 4) (ea_cons (e_var 2) ea_nil)) (show t < place.length by have := hrow m x hx t (List.mem_of_getElem? ht); omega)) (blkIn (N := ["kinds", "order", "place", "k", "t"]) (by decide +kernel)) (by have ho := hoi x (List.mem_of_getElem? hx); have := (hg.row _ (ix_mem ho.1 ho.2)).1; omega) (fun _ _ _ _ _ => pg_name sc_law_renumbered.nd rfl (by first | exact Or.inl rfl | exact Or.inr rfl))) rfl sc_law_renumbered.nd)))) (blkOk_by (N := ["kinds", "order", "place", "k", "t"]) (sc := defScope s_law_renumbered) (by decide +kernel)) (by omega) (fun _ _ _ _ _ => pg_name sc_law_renumbered.nd rfl (by first | exact Or.inl rfl | exact Or.inr rfl))) rfl sc_law_renumbered.nd))) (fun M v r => ⟨_, ⟨by rw [List.length_map]; exact hol, fun n e he hge => ?_⟩, r⟩))
    refine ⟨by rw [List.length_map]; omega, by rw [List.length_map, hol]; exact hge.len, fun r hr => ?_⟩
    obtain ⟨x, hx, rfl⟩ := List.mem_map.mp hr
    have ho := hoi x hx
    have hq := hge.row _ (ix_mem ho.1 ho.2)
    refine ⟨by rw [List.length_map]; exact hq.1, fun t ht => ?_⟩
    obtain ⟨u, hu, rfl⟩ := List.mem_map.mp ht
    have := hq.2 u hu
    rw [List.length_map, hol]
    unfold namedM
    split
    · rename_i z; have z := of_decide_eq_true z; omega
    · rename_i z
      simp only [decide_eq_true_eq] at z
      have := hpi _ (ix_mem (xs := place) (i := u) (by omega) (by omega))
      omega
end

def seedM (ns : List Int) : Int := ns.foldl (fun s c => (s * 31 + c % 1000003) % 1000003) 17
def cellM (ns : List Int) (k : Int) : Int := if k < ns.length then ix ns k else (seedM ns + 7) * (k + 3) * 69621 % 2147483647
def sp_law_cell (K : Fg) : Sp := spG K (fun i : List Int × Int => [.vl (tSq tI) i.1, .vl tI i.2]) (fun i => i.1.length ≤ 63 ∧ 0 ≤ i.2 ∧ i.2 < 100) tI (fun i => cellM i.1 i.2)
theorem seedM_b (ns : List Int) : 0 ≤ seedM ns ∧ seedM ns < 1000003 := by
  unfold seedM
  suffices h : ∀ (ns : List Int) (s : Int), 0 ≤ s ∧ s < 1000003 → 0 ≤ ns.foldl (fun s c => (s * 31 + c % 1000003) % 1000003) s ∧ ns.foldl (fun s c => (s * 31 + c % 1000003) % 1000003) s < 1000003 by
    exact h ns 17 (by omega)
  intro ns
  induction ns with
  | nil => intro s h; exact h
  | cons c ns ih => intro s h; exact ih _ (by simp only; omega)
theorem sc_law_cell : FnScope ["script", "k", "seed", "cell"] ["script", "k"] (defScope s_law_cell) := ⟨rfl, rfl, rfl, by decide +kernel, rfl, by decide +kernel, by decide +kernel⟩
section
variable {P : Program} {w : World} {K : Fg} {mg : Str → Option Value} {base : Heap}
theorem ok_law_cell {f : Addr} {fd : FuncData} (F : Fun K "_law_cell" "_law_cell" s_law_cell f fd) (b : Bi mg) : FnOk P w K mg base CX0 1 f fd ["script", "k"] (sp_law_cell K) := by
  refine fn_ok F sc_law_cell 2 rfl (fun _ => rfl) (fun cdv A outer s H E hr ⟨ns, k⟩ hp => ?_)
  dsimp only at hp ⊢
  obtain ⟨h63, hk0, hk1⟩ := hp
  refine b_cons (s_if (t_cv (e_var 1) (e_lenS b.len (e_var 0)) cv_lt) (fun h => ?_) (fun h => ?_))
  · have h := of_decide_eq_true h
    refine b_cons (s_ret (e_ixS (e_var 0) (e_var 1) (atI_ix (by omega) h)) (fun M v r => ?_))
    show v = V.int (cellM ns k)
    unfold cellM; rw [if_pos h]; exact r
  · have h := of_decide_eq_false h
    refine b_nil ?_
    refine b_cons (s_set 2 e_int ?_ sc_law_cell.nd)
    refine b_cons (s_forS 3 (fun m G' => G' = [.vl (tSq tI) ns, .vl tI k, .vl tI (seedM (ns.take m)), .un]) [.vl (tSq tI) ns, .vl tI k, .vl tI 17, .un] (e_var 0) (Sub.refl _) rfl ?_ ?_ sc_law_cell.nd rfl)
    · rintro m x _ hx rfl
      refine b_cons (s_set 2 (e_mod (e_intI b.int (e_add (e_mulR (e_var 2) e_int (by decide)) (e_mod (e_intI b.int (e_var 3)) e_int (by decide)))) e_int (by decide)) ?_ sc_law_cell.nd)
      refine B.weak (b_nil rfl) ?_
      have e : seedM (ns.take (m + 1)) = (seedM (ns.take m) * 31 + x % 1000003) % 1000003 := by
        unfold seedM; rw [take_snoc hx, List.foldl_append]; rfl
      rw [e]
      exact .same (.same (.same (.un .nil)))
    · rintro _ rfl
      have hb := seedM_b ns
      refine b_cons (s_ret (e_mod (e_intI b.int (e_mulR (e_mulL (e_add (e_var 2) e_int) (e_add (e_var 1) e_int) ?_) e_int (by decide))) e_int (by decide)) (fun M v r => ?_))
      · rw [List.take_length]; omega
      · show v = V.int (cellM ns k)
        unfold cellM; rw [if_neg h]
        rw [List.take_length] at r
        exact r
end

def targetM (digit : Int) (k : Int) (many : Int) (j : Int) : Int :=
  let rest := (digit % (many + 3))
  let way := ((digit / (many + 3)) % 8)
  if (decide (way = 0)) = true then (rest - 3) else
  if (decide (5 < way)) = true then (k + (rest % (many - k))) else
  if ((decide (j = 0)) && ((decide (way < 4)) && ((decide (0 < k)) || (decide ((rest % 2) = 0))))) = true then k else
  if (decide (j = 0)) = true then (if (k + 1) < (many - 1) then (k + 1) else (many - 1)) else
  if (decide (way = 5)) = true then k else
  if ((decide (way = 1)) && (decide (rest < 3))) = true then (ix [(-2), (-1), (-3)] rest) else
  if (decide (k < (many - 1))) = true then ((k + 1) + (rest % ((many - k) - 1))) else
  (ix [k, (-2), k, (-1), (-2)] (rest % 5))
def sp_law_target (K : Fg) : Sp := spG K (fun i : Int × Int × Int × Int => [.vl tI i.1, .vl tI i.2.1, .vl tI i.2.2.1, .vl tI i.2.2.2]) (fun i => 0 ≤ i.2.1 ∧ i.2.1 < i.2.2.1 ∧ i.2.2.1 ≤ 1000) tI (fun i => targetM i.1 i.2.1 i.2.2.1 i.2.2.2)
theorem target_good (digit k many j : Int) (h0 : 0 ≤ k) (h1 : k < many) : -3 ≤ targetM digit k many j ∧ targetM digit k many j < many := by
  have a1 := Int.emod_nonneg digit (show many + 3 ≠ 0 by omega)
  have a2 := Int.emod_lt_of_pos digit (show 0 < many + 3 by omega)
  unfold targetM
  simp only
  generalize digit % (many + 3) = rest at a1 a2
  generalize digit / (many + 3) % 8 = way
  split
  · omega
  split
  · have b1 := Int.emod_nonneg rest (show many - k ≠ 0 by omega)
    have b2 := Int.emod_lt_of_pos rest (show 0 < many - k by omega)
    omega
  split
  · omega
  split
  · split <;> omega
  split
  · omega
  split
  · rename_i h
    simp only [Bool.and_eq_true, decide_eq_true_eq] at h
    have hm := ix_mem (xs := [(-2 : Int), -1, -3]) a1 (by simp; omega)
    simp only [List.mem_cons, List.not_mem_nil, or_false] at hm
    omega
  split
  · rename_i h
    simp only [decide_eq_true_eq] at h
    have b1 := Int.emod_nonneg rest (show many - k - 1 ≠ 0 by omega)
    have b2 := Int.emod_lt_of_pos rest (show 0 < many - k - 1 by omega)
    omega
  · have hm := ix_mem (xs := [k, (-2 : Int), k, -1, -2]) (i := rest % 5) (by omega) (by simp; omega)
    simp only [List.mem_cons, List.not_mem_nil, or_false] at hm
    omega
section
variable {P : Program} {w : World} {K : Fg} {mg : Str → Option Value} {base : Heap}
theorem sc_law_target : FnScope ["digit", "k", "many", "j", "rest", "way"] ["digit", "k", "many", "j"] (defScope s_law_target) := ⟨rfl, rfl, rfl, by decide +kernel, rfl, by decide +kernel, by decide +kernel⟩
theorem ok_law_target {f : Addr} {fd : FuncData} (F : Fun K "_law_target" "_law_target" s_law_target f fd) (b : Bi mg)  : FnOk P w K mg base CX0 1 f fd ["digit", "k", "many", "j"] (sp_law_target K) := by
  refine fn_ok F sc_law_target 2 rfl (fun _ => rfl) (fun cdv A outer s H E hr ⟨digit, k, many, j⟩ hp => ?_)
  dsimp only at hp ⊢
  have a1 := Int.emod_nonneg digit (show many + 3 ≠ 0 by omega)
  have a2 := Int.emod_lt_of_pos digit (show 0 < many + 3 by omega)
  refine b_cons (s_set 4 (e_mod (e_intI b.int (e_var 0)) (e_add (e_var 2) e_int) (by first | decide | omega)) ?_ sc_law_target.nd)
  refine b_cons (s_set 5 (e_mod (e_div (e_intI b.int (e_var 0)) (e_add (e_var 2) e_int) (by first | decide | omega)) e_int (by first | decide | omega)) ?_ sc_law_target.nd)
  refine b_cons (s_if (t_cv (e_var 5) e_int cv_eqI) (fun h1 => ?_) (fun h1 => ?_))
  · have h1p := h1; try simp only [Bool.and_eq_true, Bool.or_eq_true, Bool.and_eq_false_iff, Bool.or_eq_false_iff, Bool.not_eq_true', Bool.not_eq_false', decide_eq_true_eq, decide_eq_false_iff_not] at h1p
    refine b_cons (s_ret (e_sub (e_var 4) e_int) (fun M v r => ?_))
    exact ret_is r (by unfold targetM; dsimp only; rw [if_pos h1])
  · have h1p := h1; try simp only [Bool.and_eq_true, Bool.or_eq_true, Bool.and_eq_false_iff, Bool.or_eq_false_iff, Bool.not_eq_true', Bool.not_eq_false', decide_eq_true_eq, decide_eq_false_iff_not] at h1p
    refine b_nil ?_
    refine b_cons (s_if (t_cv (e_var 5) e_int cv_gt) (fun h2 => ?_) (fun h2 => ?_))
    · have h2p := h2; try simp only [Bool.and_eq_true, Bool.or_eq_true, Bool.and_eq_false_iff, Bool.or_eq_false_iff, Bool.not_eq_true', Bool.not_eq_false', decide_eq_true_eq, decide_eq_false_iff_not] at h2p
      refine b_cons (s_ret (e_add (e_var 1) (e_mod (e_intI b.int (e_var 4)) (e_sub (e_var 2) (e_var 1)) (by first | decide | omega))) (fun M v r => ?_))
      exact ret_is r (by unfold targetM; dsimp only; rw [if_neg (nt h1), if_pos h2])
    · have h2p := h2; try simp only [Bool.and_eq_true, Bool.or_eq_true, Bool.and_eq_false_iff, Bool.or_eq_false_iff, Bool.not_eq_true', Bool.not_eq_false', decide_eq_true_eq, decide_eq_false_iff_not] at h2p
      refine b_nil ?_
      refine b_cons (s_if (TW.toT (w_and (t_cv (e_var 3) e_int cv_eqI) (fun h => (w_and (t_cv (e_var 5) e_int cv_lt) (fun h => (w_and1 (TW.toT (w_or (t_cv (e_var 1) e_int cv_gt) (fun h => (w_or1 (t_cv (e_mod (e_intI b.int (e_var 4)) e_int (by first | decide | omega)) e_int cv_eqI))))))))))) (fun h3 => ?_) (fun h3 => ?_))
      · have h3p := h3; try simp only [Bool.and_eq_true, Bool.or_eq_true, Bool.and_eq_false_iff, Bool.or_eq_false_iff, Bool.not_eq_true', Bool.not_eq_false', decide_eq_true_eq, decide_eq_false_iff_not] at h3p
        refine b_cons (s_ret (e_var 1) (fun M v r => ?_))
        exact ret_is r (by unfold targetM; dsimp only; rw [if_neg (nt h1), if_neg (nt h2), if_pos h3])
      · have h3p := h3; try simp only [Bool.and_eq_true, Bool.or_eq_true, Bool.and_eq_false_iff, Bool.or_eq_false_iff, Bool.not_eq_true', Bool.not_eq_false', decide_eq_true_eq, decide_eq_false_iff_not] at h3p
        refine b_nil ?_
        refine b_cons (s_if (t_cv (e_var 3) e_int cv_eqI) (fun h4 => ?_) (fun h4 => ?_))
        · have h4p := h4; try simp only [Bool.and_eq_true, Bool.or_eq_true, Bool.and_eq_false_iff, Bool.or_eq_false_iff, Bool.not_eq_true', Bool.not_eq_false', decide_eq_true_eq, decide_eq_false_iff_not] at h4p
          refine b_cons (s_ret (e_min rfl b.min (e_sub (e_var 2) e_int) (e_add (e_var 1) e_int)) (fun M v r => ?_))
          exact ret_is r (by unfold targetM; dsimp only; rw [if_neg (nt h1), if_neg (nt h2), if_neg (nt h3), if_pos h4])
        · have h4p := h4; try simp only [Bool.and_eq_true, Bool.or_eq_true, Bool.and_eq_false_iff, Bool.or_eq_false_iff, Bool.not_eq_true', Bool.not_eq_false', decide_eq_true_eq, decide_eq_false_iff_not] at h4p
          refine b_nil ?_
          refine b_cons (s_if (t_cv (e_var 5) e_int cv_eqI) (fun h5 => ?_) (fun h5 => ?_))
          · have h5p := h5; try simp only [Bool.and_eq_true, Bool.or_eq_true, Bool.and_eq_false_iff, Bool.or_eq_false_iff, Bool.not_eq_true', Bool.not_eq_false', decide_eq_true_eq, decide_eq_false_iff_not] at h5p
            refine b_cons (s_ret (e_var 1) (fun M v r => ?_))
            exact ret_is r (by unfold targetM; dsimp only; rw [if_neg (nt h1), if_neg (nt h2), if_neg (nt h3), if_neg (nt h4), if_pos h5])
          · have h5p := h5; try simp only [Bool.and_eq_true, Bool.or_eq_true, Bool.and_eq_false_iff, Bool.or_eq_false_iff, Bool.not_eq_true', Bool.not_eq_false', decide_eq_true_eq, decide_eq_false_iff_not] at h5p
            refine b_nil ?_
            refine b_cons (s_if (TW.toT (w_and (t_cv (e_var 5) e_int cv_eqI) (fun h => (w_and1 (t_cv (e_var 4) e_int cv_lt))))) (fun h6 => ?_) (fun h6 => ?_))
            · have h6p := h6; try simp only [Bool.and_eq_true, Bool.or_eq_true, Bool.and_eq_false_iff, Bool.or_eq_false_iff, Bool.not_eq_true', Bool.not_eq_false', decide_eq_true_eq, decide_eq_false_iff_not] at h6p
              refine b_cons (s_ret (e_ixL (EL.toE (el_lst (eh_cons (e_neg e_int) (eh_cons (e_neg e_int) (eh_cons (e_neg e_int) eh_nil))))) (e_var 4) (atI_ix (by first | decide | omega | (simp only [List.length_cons, List.length_nil]; omega)) (by first | decide | omega | (simp only [List.length_cons, List.length_nil]; omega)))) (fun M v r => ?_))
              exact ret_is r (by unfold targetM; dsimp only; rw [if_neg (nt h1), if_neg (nt h2), if_neg (nt h3), if_neg (nt h4), if_neg (nt h5), if_pos h6])
            · have h6p := h6; try simp only [Bool.and_eq_true, Bool.or_eq_true, Bool.and_eq_false_iff, Bool.or_eq_false_iff, Bool.not_eq_true', Bool.not_eq_false', decide_eq_true_eq, decide_eq_false_iff_not] at h6p
              refine b_nil ?_
              refine b_cons (s_if (t_cv (e_var 1) (e_sub (e_var 2) e_int) cv_lt) (fun h7 => ?_) (fun h7 => ?_))
              · have h7p := h7; try simp only [Bool.and_eq_true, Bool.or_eq_true, Bool.and_eq_false_iff, Bool.or_eq_false_iff, Bool.not_eq_true', Bool.not_eq_false', decide_eq_true_eq, decide_eq_false_iff_not] at h7p
                refine b_cons (s_ret (e_add (e_add (e_var 1) e_int) (e_mod (e_intI b.int (e_var 4)) (e_sub (e_sub (e_var 2) (e_var 1)) e_int) (by first | decide | omega))) (fun M v r => ?_))
                exact ret_is r (by unfold targetM; dsimp only; rw [if_neg (nt h1), if_neg (nt h2), if_neg (nt h3), if_neg (nt h4), if_neg (nt h5), if_neg (nt h6), if_pos h7])
              · have h7p := h7; try simp only [Bool.and_eq_true, Bool.or_eq_true, Bool.and_eq_false_iff, Bool.or_eq_false_iff, Bool.not_eq_true', Bool.not_eq_false', decide_eq_true_eq, decide_eq_false_iff_not] at h7p
                refine b_nil ?_
                refine b_cons (s_ret (e_ixL (EL.toE (el_lst (eh_cons (e_var 1) (eh_cons (e_neg e_int) (eh_cons (e_var 1) (eh_cons (e_neg e_int) (eh_cons (e_neg e_int) eh_nil))))))) (e_mod (e_intI b.int (e_var 4)) e_int (by first | decide | omega)) (atI_ix (by first | decide | omega | (simp only [List.length_cons, List.length_nil]; omega)) (by first | decide | omega | (simp only [List.length_cons, List.length_nil]; omega)))) (fun M v r => ?_))
                exact ret_is r (by unfold targetM; dsimp only; rw [if_neg (nt h1), if_neg (nt h2), if_neg (nt h3), if_neg (nt h4), if_neg (nt h5), if_neg (nt h6), if_neg (nt h7)])
end

/-! _law_digits -/
structure DigS where
  row : List Int
  seed : Int
  rest : Int
  k : Int
def digStep (z : DigS) (s : Int) : DigS :=
  let seed := (z.seed * 48271 + 974711 * z.k + 12345) % 2147483647
  let twice := seed * (seed / 65537 + 3) % 2147483629
  if z.rest > 0 then ⟨z.row ++ [z.rest % s], seed, z.rest / s, z.k + 1⟩ else ⟨z.row ++ [twice / 19 % s], seed, z.rest, z.k + 1⟩
def digInit (cell : Int) : DigS := ⟨[], cell % 2147483629, if cell - 10 ^ 18 > 0 then cell - 10 ^ 18 else 0, 0⟩
def digRun (cell : Int) (sizes : List Int) : DigS := sizes.foldl digStep (digInit cell)
def digitsM (cell : Int) (sizes : List Int) : List Int := (digRun cell sizes).row
theorem digRun_snoc (cell : Int) (sizes : List Int) (s : Int) : digRun cell (sizes ++ [s]) = digStep (digRun cell sizes) s := by
  unfold digRun; rw [List.foldl_append]; rfl
theorem dig_inv (cell : Int) (sizes : List Int) : 0 ≤ (digRun cell sizes).seed ∧ (digRun cell sizes).seed < 2147483647 ∧ (digRun cell sizes).k = sizes.length ∧ (digRun cell sizes).row.length = sizes.length := by
  suffices h : ∀ (n : Nat) (sizes : List Int), sizes.length = n → 0 ≤ (digRun cell sizes).seed ∧ (digRun cell sizes).seed < 2147483647 ∧ (digRun cell sizes).k = sizes.length ∧ (digRun cell sizes).row.length = sizes.length from h _ sizes rfl
  intro n
  induction n with
  | zero =>
    intro sizes h
    have : sizes = [] := List.eq_nil_of_length_eq_zero h
    subst this
    refine ⟨?_, ?_, rfl, rfl⟩
    · show 0 ≤ cell % 2147483629; omega
    · show cell % 2147483629 < 2147483647; omega
  | succ n ih =>
    intro sizes h
    rcases List.eq_nil_or_concat sizes with e | ⟨l, s, e⟩
    · subst e; simp at h
    · rw [List.concat_eq_append] at e
      subst e
      have hl : l.length = n := by simp at h; exact h
      obtain ⟨h1, h2, h3, h4⟩ := ih l hl
      rw [digRun_snoc]
      unfold digStep
      simp only
      split <;> (refine ⟨?_, ?_, ?_, ?_⟩ <;> first | (show _ ≤ (_ % _ : Int); omega) | (show (_ % _ : Int) < _; omega) | simp [h3, h4])
theorem dig_good (cell : Int) : ∀ (sizes : List Int), (∀ s ∈ sizes, 0 < s) → Paired (fun d s : Int => 0 ≤ d ∧ d < s) (digitsM cell sizes) sizes := by
  intro sizes
  suffices h : ∀ (n : Nat) (sizes : List Int), sizes.length = n → (∀ s ∈ sizes, 0 < s) → Paired (fun d s : Int => 0 ≤ d ∧ d < s) (digitsM cell sizes) sizes from h _ sizes rfl
  intro n
  induction n with
  | zero =>
    intro sizes h _
    have : sizes = [] := List.eq_nil_of_length_eq_zero h
    subst this
    exact .nil
  | succ n ih =>
    intro sizes h hp
    rcases List.eq_nil_or_concat sizes with e | ⟨l, s, e⟩
    · subst e; simp at h
    · rw [List.concat_eq_append] at e
      subst e
      have hl : l.length = n := by simp at h; exact h
      have ih' := ih l hl (fun x hx => hp x (by simp [hx]))
      have hs : 0 < s := hp s (by simp)
      unfold digitsM at ih' ⊢
      rw [digRun_snoc]
      unfold digStep
      simp only
      split
      · exact paired_app ih' (.cons ⟨Int.emod_nonneg _ (by omega), Int.emod_lt_of_pos _ hs⟩ .nil)
      · exact paired_app ih' (.cons ⟨Int.emod_nonneg _ (by omega), Int.emod_lt_of_pos _ hs⟩ .nil)
theorem digits_len (cell : Int) (sizes : List Int) : (digitsM cell sizes).length = sizes.length := (dig_inv cell sizes).2.2.2
def sp_law_digits (K : Fg) : Sp := spG K (fun i : Int × List Int => [.vl tI i.1, .vl (tLst tI) i.2]) (fun i => i.2.length ≤ 3000 ∧ ∀ s ∈ i.2, 0 < s ∧ s < 1073741824) (tLst tI) (fun i => digitsM i.1 i.2)
section
variable {P : Program} {w : World} {K : Fg} {mg : Str → Option Value} {base : Heap}
theorem sc_law_digits : FnScope ["cell", "sizes", "row", "seed", "rest", "k", "twice"] ["cell", "sizes"] (defScope s_law_digits) := ⟨rfl, rfl, rfl, by decide +kernel, rfl, by decide +kernel, by decide +kernel⟩
theorem ok_law_digits {f : Addr} {fd : FuncData} (F : Fun K "_law_digits" "_law_digits" s_law_digits f fd) (b : Bi mg)  : FnOk P w K mg base CX0 1 f fd ["cell", "sizes"] (sp_law_digits K) := by
  refine fn_ok F sc_law_digits 5 rfl (fun _ => rfl) (fun cdv A outer s H E hr ⟨cell, sizes⟩ hp => ?_)
  dsimp only at hp ⊢
  obtain ⟨hz, hs⟩ := hp
  refine b_cons (s_own 2 (el_lst (s := tI) eh_nil) ?_ sc_law_digits.nd)
  refine b_cons (s_set 3 (e_mod (e_intI b.int (e_var 0)) e_int (by first | decide | omega)) ?_ sc_law_digits.nd)
  refine b_cons (s_set 4 (e_max rfl b.max e_int (e_sub (e_intI b.int (e_var 0)) (e_pow e_int e_int (by decide)))) ?_ sc_law_digits.nd)
  refine b_cons (s_forR 5 (fun m G' => G' = [.vl tI cell, .vl (tLst tI) sizes, .ow tI (digRun cell (sizes.take m)).row, .vl tI (digRun cell (sizes.take m)).seed, .vl tI (digRun cell (sizes.take m)).rest, .un, .un]) _ b.range (e_lenL b.len (e_var 1)) (by first | decide | omega) (Sub.refl _) rfl ?_ ?_ sc_law_digits.nd rfl)
  · rintro m _ hm rfl
    obtain ⟨x, hx, hax⟩ := atI_pos (xs := sizes) (i := (m : Int)) (by omega) hm
    rw [Int.toNat_natCast] at hx
    obtain ⟨hx0, hx1⟩ := hs x (List.mem_of_getElem? hx)
    obtain ⟨i1, i2, i3, i4⟩ := dig_inv cell (sizes.take m)
    have hl : (sizes.take m).length = m := by rw [List.length_take]; omega
    rw [hl] at i3 i4
    have st := digRun_snoc cell (sizes.take m) x
    rw [← take_snoc hx] at st
    refine b_cons (s_set 3 (e_mod (e_intI b.int (e_add (e_add (e_mulR (e_var 3) e_int (by decide)) (e_mulL e_int (e_var 5) (by decide))) e_int)) e_int (by first | decide | omega)) ?_ sc_law_digits.nd)
    refine b_cons (s_set 6 (e_mod (e_intI b.int (e_mulL (e_var 3) (e_add (e_div (e_var 3) e_int (by first | decide | omega)) e_int) (by first | decide | omega))) e_int (by first | decide | omega)) ?_ sc_law_digits.nd)
    refine b_cut (fun G' => Sub G' [.vl tI cell, .vl (tLst tI) sizes, .ow tI (digRun cell (sizes.take (m + 1))).row, .vl tI (digRun cell (sizes.take (m + 1))).seed, .vl tI (digRun cell (sizes.take (m + 1))).rest, .un, .un]) (s_if (t_cv (e_var 4) e_int cv_gt) (fun h => ?_) (fun h => ?_)) ?_
    · have h := of_decide_eq_true h
      refine b_cons (s_app 2 rfl (e_mod (e_intI b.int (e_var 4)) (e_ixL (e_var 1) (e_var 5) hax) hx0) (by omega) ?_)
      refine b_cons (s_set 4 (e_div (e_intI b.int (e_var 4)) (e_ixL (e_var 1) (e_var 5) hax) ⟨hx0, hx1⟩) ?_ sc_law_digits.nd)
      refine b_nil ?_
      rw [st]; unfold digStep; simp only [if_pos (show (digRun cell (sizes.take m)).rest > 0 from h), i3]
      exact .same (.same (.same (.same (.same (.un (.un .nil))))))
    · have h := of_decide_eq_false h
      refine b_cons (s_app 2 rfl (e_mod (e_div (e_var 6) e_int (by first | decide | omega)) (e_ixL (e_var 1) (e_var 5) hax) hx0) (by omega) ?_)
      refine b_nil ?_
      rw [st]; unfold digStep; simp only [if_neg (show ¬ (digRun cell (sizes.take m)).rest > 0 from h), i3]
      exact .same (.same (.same (.same (.same (.un (.un .nil))))))
    intro G' hG
    exact B.weak (b_nil rfl) hG
  · rintro _ rfl
    rw [Int.toNat_natCast, List.take_length]
    refine b_freeze 2 rfl ?_
    exact b_cons (s_ret (e_var 2) (fun M v r => r))
end

def bookSizesM (n e : Int) : List Int := ([3 * n] ++ (List.replicate n.toNat [2 * e + 2]).flatten) ++ (List.replicate (n * e).toNat [8 * (n + 3)]).flatten
def sp_law_book_sizes (K : Fg) : Sp := spG K (fun i : Int × Int => [.vl tI i.1, .vl tI i.2]) (fun i => (2 ≤ i.1 ∧ i.1 ≤ 40) ∧ 2 ≤ i.2 ∧ i.2 ≤ 20) (tLst tI) (fun i => bookSizesM i.1 i.2)
theorem bookSizes_eq (n e : Int) : bookSizesM n e = 3 * n :: (List.replicate n.toNat (2 * e + 2) ++ List.replicate (n * e).toNat (8 * (n + 3))) := by
  unfold bookSizesM; rw [flat_one, flat_one]; rfl
theorem bookSizes_ok {n e : Int} (h0 : 2 ≤ n) (h1 : n ≤ 40) (h2 : 2 ≤ e) (h3 : e ≤ 20) : (bookSizesM n e).length ≤ 3000 ∧ ∀ s ∈ bookSizesM n e, 0 < s ∧ s < 1073741824 := by
  have hm := mul_le_800 (by omega) h1 (by omega) h3
  rw [bookSizes_eq]
  refine ⟨?_, fun s hs => ?_⟩
  · simp only [List.length_cons, List.length_append, List.length_replicate]; omega
  · simp only [List.mem_cons, List.mem_append, List.mem_replicate] at hs
    omega
section
variable {P : Program} {w : World} {K : Fg} {mg : Str → Option Value} {base : Heap}
theorem sc_law_book_sizes : FnScope ["n", "e"] ["n", "e"] (defScope s_law_book_sizes) := ⟨rfl, rfl, rfl, by decide +kernel, rfl, by decide +kernel, by decide +kernel⟩
theorem ok_law_book_sizes {f : Addr} {fd : FuncData} (F : Fun K "_law_book_sizes" "_law_book_sizes" s_law_book_sizes f fd) (b : Bi mg)  : FnOk P w K mg base CX0 1 f fd ["n", "e"] (sp_law_book_sizes K) := by
  refine fn_ok F sc_law_book_sizes 0 rfl (fun _ => rfl) (fun cdv A outer s H E hr ⟨n, e⟩ hp => ?_)
  dsimp only at hp ⊢
  have hm := mul_le_800 (n := n) (e := e) (by omega) (by omega) (by omega) (by omega)
  refine b_cons (s_ret (EL.toE (el_cat (EL.toE (el_cat (EL.toE (el_lst (eh_cons (e_mulL e_int (e_var 0) (by decide)) eh_nil))) (EL.toE (el_rep (EL.toE (el_lst (eh_cons (e_add (e_mulL e_int (e_var 1) (by decide)) e_int) eh_nil))) (e_var 0) (by first | decide | omega) (by first | decide | omega | (simp only [List.length_cons, List.length_nil, List.length_append, rep_len, List.length_map, List.length_range, List.length_take, List.length_drop, List.length_replicate, List.length_set, Nat.zero_add, Nat.mul_one, Nat.one_mul]; omega)))) (by first | decide | omega | (simp only [List.length_cons, List.length_nil, List.length_append, rep_len, List.length_map, List.length_range, List.length_take, List.length_drop, List.length_replicate, List.length_set, Nat.zero_add, Nat.mul_one, Nat.one_mul]; omega)))) (EL.toE (el_rep (EL.toE (el_lst (eh_cons (e_mulL e_int (e_add (e_var 0) e_int) (by decide)) eh_nil))) (e_mulL (e_var 0) (e_var 1) (by first | decide | omega)) (by first | decide | omega) (by first | decide | omega | (simp only [List.length_cons, List.length_nil, List.length_append, rep_len, List.length_map, List.length_range, List.length_take, List.length_drop, List.length_replicate, List.length_set, Nat.zero_add, Nat.mul_one, Nat.one_mul]; omega)))) (by first | decide | omega | (simp only [List.length_cons, List.length_nil, List.length_append, rep_len, List.length_map, List.length_range, List.length_take, List.length_drop, List.length_replicate, List.length_set, Nat.zero_add, Nat.mul_one, Nat.one_mul]; omega)))) (fun M v r => ?_))
  exact r
end

def bookMany (row : List Int) (n : Int) : Int := if decide (n ≤ ix row 0) = true then 2 + ix row 0 % (n - 1) else 1 + ix row 0
def bookSize (row : List Int) (e k : Int) : Int :=
  let a := ix row (1 + k)
  let c := if decide (e < a) = true then a - e else a
  if decide (e < c) = true then 2 else c
def bookKind (row : List Int) (n e k : Int) : List Int := (List.range (bookSize row e k).toNat).map fun j : Nat => targetM (ix row (1 + n + k * e + (j : Int))) k (bookMany row n) (j : Int)
def bookM (row : List Int) (n e : Int) : List (List Int) := (List.range (bookMany row n).toNat).map fun k : Nat => bookKind row n e (k : Int)
def GoodRow (row : List Int) (n e : Int) : Prop := (row.length : Int) = 1 + n + n * e ∧ (0 ≤ ix row 0 ∧ ix row 0 < 3 * n) ∧ ∀ k : Int, 0 ≤ k → k < n → 0 ≤ ix row (1 + k) ∧ ix row (1 + k) < 2 * e + 2
def sp_law_book (K : Fg) : Sp := spG K (fun i : List Int × Int × Int => [.vl (tLst tI) i.1, .vl tI i.2.1, .vl tI i.2.2]) (fun i => ((2 ≤ i.2.1 ∧ i.2.1 ≤ 40) ∧ 2 ≤ i.2.2 ∧ i.2.2 ≤ 20) ∧ GoodRow i.1 i.2.1 i.2.2) (tTup (tTup tI)) (fun i => bookM i.1 i.2.1 i.2.2)
theorem bookMany_b {row : List Int} {n e : Int} (hn : 2 ≤ n) (h : GoodRow row n e) : 1 ≤ bookMany row n ∧ bookMany row n ≤ n := by
  obtain ⟨_, ⟨h1, h2⟩, _⟩ := h
  unfold bookMany
  have a1 := Int.emod_nonneg (ix row 0) (show n - 1 ≠ 0 by omega)
  have a2 := Int.emod_lt_of_pos (ix row 0) (show 0 < n - 1 by omega)
  split
  · omega
  · rename_i hh; simp only [decide_eq_true_eq] at hh; omega
theorem bookSize_b {row : List Int} {n e k : Int} (he : 2 ≤ e) (h : GoodRow row n e) (h0 : 0 ≤ k) (h1 : k < n) : 0 ≤ bookSize row e k ∧ bookSize row e k ≤ e := by
  obtain ⟨_, _, h⟩ := h
  obtain ⟨a, c⟩ := h k h0 h1
  unfold bookSize
  simp only [decide_eq_true_eq]
  repeat' split
  all_goals omega
/-- a book that is right -/
theorem bookM_good {row : List Int} {n e : Int} (hn : 2 ≤ n) (he : 2 ≤ e) (h : GoodRow row n e) : Good (bookM row n e) n e := by
  have hm := bookMany_b hn h
  have hl : (bookM row n e).length = (bookMany row n).toNat := by unfold bookM; simp
  refine ⟨by rw [hl]; omega, by rw [hl]; omega, fun r hr => ?_⟩
  unfold bookM at hr
  obtain ⟨k, hk, rfl⟩ := List.mem_map.mp hr
  have hk' := List.mem_range.mp hk
  have hs := bookSize_b he h (k := (k : Int)) (by omega) (by omega)
  refine ⟨?_, fun t ht => ?_⟩
  · unfold bookKind; simp only [List.length_map, List.length_range]; omega
  · unfold bookKind at ht
    obtain ⟨j, hj, rfl⟩ := List.mem_map.mp ht
    have := target_good (ix row (1 + n + (k : Int) * e + (j : Int))) k (bookMany row n) j (by omega) (by omega)
    rw [hl]; omega
theorem digits_goodRow {n e : Int} (c : Int) (h0 : 2 ≤ n) (h1 : n ≤ 40) (h2 : 2 ≤ e) (h3 : e ≤ 20) : GoodRow (digitsM c (bookSizesM n e)) n e := by
  have hm := mul_le_800 (n := n) (e := e) (by omega) h1 (by omega) h3
  have ok := bookSizes_ok h0 h1 h2 h3
  have p := dig_good c (bookSizesM n e) (fun s hs => (ok.2 s hs).1)
  have hl : ((bookSizesM n e).length : Int) = 1 + n + n * e := by
    rw [bookSizes_eq]; simp only [List.length_cons, List.length_append, List.length_replicate]; omega
  refine ⟨by rw [digits_len]; exact hl, ?_, fun k k0 k1 => ?_⟩
  · have := ix_paired p (i := 0) (by omega) (by omega)
    have e0 : ix (bookSizesM n e) 0 = 3 * n := by rw [bookSizes_eq]; exact ix_getElem (by omega) rfl
    rw [e0] at this; exact this
  · have := ix_paired p (i := 1 + k) (by omega) (by omega)
    have e0 : ix (bookSizesM n e) (1 + k) = 2 * e + 2 := by
      apply ix_getElem (by omega)
      rw [bookSizes_eq, show (1 + k).toNat = k.toNat + 1 by omega, List.getElem?_cons_succ, List.getElem?_append_left (by rw [List.length_replicate]; omega), List.getElem?_replicate, if_pos (by omega)]
    rw [e0] at this; exact this
section
variable {P : Program} {w : World} {K : Fg} {mg : Str → Option Value} {base : Heap}
theorem sc_law_book : FnScope ["row", "n", "e", "many", "kinds", "k", "size", "j"] ["row", "n", "e"] (defScope s_law_book) := ⟨rfl, rfl, rfl, by decide +kernel, rfl, by decide +kernel, by decide +kernel⟩
theorem ok_law_book {f : Addr} {fd : FuncData} (F : Fun K "_law_book" "_law_book" s_law_book f fd) (b : Bi mg) (C_law_target : Fn P w K mg base CX0 1 "_law_target" ["digit", "k", "many", "j"] (sp_law_target K)) : FnOk P w K mg base CX0 2 f fd ["row", "n", "e"] (sp_law_book K) := by
  refine fn_ok F sc_law_book 5 rfl (fun _ => rfl) (fun cdv A outer s H E hr ⟨row, n, e⟩ hp => ?_)
  dsimp only at hp ⊢
  obtain ⟨⟨⟨n0, n1⟩, e0, e1⟩, hG⟩ := hp
  have hG' := hG
  obtain ⟨hl, hr0, hrk⟩ := hG'
  have hmul := mul_le_800 (n := n) (e := e) (by omega) (by omega) (by omega) (by omega)
  have hM := bookMany_b n0 hG
  refine b_cons (s_set 3 (e_add e_int (e_ixL (e_var 0) e_int (atI_ix (by first | decide | omega | (simp only [List.length_cons, List.length_nil]; omega)) (by first | decide | omega | (simp only [List.length_cons, List.length_nil]; omega))))) ?_ sc_law_book.nd)
  refine b_cons (s_ifSet 3 rfl (t_cv (e_ixL (e_var 0) e_int (atI_ix (by first | decide | omega | (simp only [List.length_cons, List.length_nil]; omega)) (by first | decide | omega | (simp only [List.length_cons, List.length_nil]; omega)))) (e_var 1) cv_ge) (fun h => (e_add e_int (e_mod (e_intI b.int (e_ixL (e_var 0) e_int (atI_ix (by first | decide | omega | (simp only [List.length_cons, List.length_nil]; omega)) (by first | decide | omega | (simp only [List.length_cons, List.length_nil]; omega))))) (e_sub (e_var 1) e_int) (by first | decide | omega)))) ?_ sc_law_book.nd)
  refine b_cons (s_own 4 (el_lst (s := (tTup tI)) eh_nil) ?_ sc_law_book.nd)
  refine b_cons (s_forR 5 (fun m G' => G' = [.vl (tLst tI) row, .vl tI n, .vl tI e, .vl tI (bookMany row n), .ow (tTup tI) ((List.range m).map fun k : Nat => bookKind row n e (k : Int)), .un, .un, .un]) _ b.range (e_var 3) (by show -4611686018427387904 ≤ bookMany row n ∧ bookMany row n < 4611686018427387904; omega) (Sub.refl _) rfl ?_ ?_ sc_law_book.nd rfl)
  · rintro m _ hm rfl
    have hm' : (m : Int) < bookMany row n := hm
    have hs := bookSize_b e0 hG (k := (m : Int)) (by omega) (by omega)
    have hk := hrk m (by omega) (by omega)
    have hme : (m : Int) * e + e ≤ n * e := by
      have := Int.mul_le_mul_of_nonneg_right (show (m : Int) + 1 ≤ n by omega) (show 0 ≤ e by omega)
      rw [Int.add_mul] at this; omega
    have hme0 : 0 ≤ (m : Int) * e := Int.mul_nonneg (by omega) (by omega)
    refine b_cons (s_set 6 (e_ixL (e_var 0) (e_add e_int (e_var 5)) (atI_ix (by first | decide | omega | (simp only [List.length_cons, List.length_nil]; omega)) (by first | decide | omega | (simp only [List.length_cons, List.length_nil]; omega)))) ?_ sc_law_book.nd)
    refine b_cons (s_ifSet 6 rfl (t_cv (e_var 6) (e_var 2) cv_gt) (fun h => (e_sub (e_var 6) (e_var 2))) ?_ sc_law_book.nd)
    refine b_cons (s_ifSet 6 rfl (t_cv (e_var 6) (e_var 2) cv_gt) (fun h => e_int) ?_ sc_law_book.nd)
    refine b_cons (s_app 4 rfl (e_tupL b.tuple (EL.toE (el_lc (lc_R (own := [("j", 7)]) b.range (e_var 6) (by show -1000000 ≤ bookSize row e m ∧ bookSize row e m ≤ 1000000; omega) 7 (fun s0 H C cl fp j hx => have hj : (j : Int) < bookSize row e m := hx; (e_call C_law_target (hr.mono (by decide)) (_, _, _, _) (ea_cons (e_ixL (e_var 0) (e_add (e_add (e_add e_int (e_var 1)) (e_mulL (e_var 5) (e_var 2) (by first | decide | omega))) (e_var 7)) (atI_ix (by first | decide | omega | (simp only [List.length_cons, List.length_nil]; omega)) (by first | decide | omega | (simp only [List.length_cons, List.length_nil]; omega)))) (ea_cons (e_var 5) (ea_cons (e_var 3) (ea_cons (e_var 7) ea_nil)))) (by exact ⟨by show (0 : Int) ≤ m; omega, hm', by show bookMany row n ≤ 1000; omega⟩))) (blkOk_by (N := ["row", "n", "e", "many", "kinds", "k", "size", "j"]) (sc := defScope s_law_book) (by decide +kernel)) (fun _ _ _ _ _ => pg_name sc_law_book.nd rfl (by first | exact Or.inl rfl | exact Or.inr rfl))) rfl sc_law_book.nd))) (by first | decide | omega | (simp only [List.length_cons, List.length_nil, List.length_append, rep_len, List.length_map, List.length_range, List.length_take, List.length_drop, List.length_replicate, List.length_set, Nat.zero_add, Nat.mul_one, Nat.one_mul]; omega)) ?_)
    refine B.weak (b_nil rfl) ?_
    rw [List.range_succ, List.map_append]
    exact .same (.same (.same (.same (.same (.un (.un (.un .nil)))))))
  · rintro _ rfl
    exact b_cons (s_ret (e_read 4 rfl (imm_T (imm_T imm_I)) (e_tupL b.tuple (e_var 4))) (fun M v r => r))
end

def towerTargetM (digit : Int) (k : Int) (many : Int) : Int :=
  let way := (digit % 16)
  let rest := (digit / 16)
  if (decide (way = 0)) = true then ((rest % (many + 3)) - 3) else
  if ((decide (way < 4)) || (decide (k = (many - 1)))) = true then (ix [(-2), (-1), (-3), (-2), (-1)] (rest % 5)) else
  if (decide (way < 12)) = true then ((k + 1) + (rest % (if ((many - 1) - k) < 3 then ((many - 1) - k) else 3))) else
  ((k + 1) + (rest % ((many - 1) - k)))
def sp_law_tower_target (K : Fg) : Sp := spG K (fun i : Int × Int × Int => [.vl tI i.1, .vl tI i.2.1, .vl tI i.2.2]) (fun i => (0 ≤ i.2.1 ∧ i.2.1 < i.2.2) ∧ i.2.2 ≤ 1000) tI (fun i => towerTargetM i.1 i.2.1 i.2.2)
theorem tower_t (digit k many : Int) (h0 : 0 ≤ k) (h1 : k < many) : -3 ≤ towerTargetM digit k many ∧ towerTargetM digit k many < many := by
  unfold towerTargetM
  dsimp only
  generalize digit % 16 = way
  generalize digit / 16 = rest
  split
  · have a1 := Int.emod_nonneg rest (show many + 3 ≠ 0 by omega)
    have a2 := Int.emod_lt_of_pos rest (show 0 < many + 3 by omega)
    omega
  split
  · have a1 := Int.emod_nonneg rest (show (5 : Int) ≠ 0 by omega)
    have a2 := Int.emod_lt_of_pos rest (show (0 : Int) < 5 by omega)
    have : rest % 5 = 0 ∨ rest % 5 = 1 ∨ rest % 5 = 2 ∨ rest % 5 = 3 ∨ rest % 5 = 4 := by omega
    have v0 : ix ([-2, -1, -3, -2, -1] : List Int) 0 = -2 := rfl
    have v1 : ix ([-2, -1, -3, -2, -1] : List Int) 1 = -1 := rfl
    have v2 : ix ([-2, -1, -3, -2, -1] : List Int) 2 = -3 := rfl
    have v3 : ix ([-2, -1, -3, -2, -1] : List Int) 3 = -2 := rfl
    have v4 : ix ([-2, -1, -3, -2, -1] : List Int) 4 = -1 := rfl
    rcases this with q | q | q | q | q <;> rw [q] <;> first | rw [v0] | rw [v1] | rw [v2] | rw [v3] | rw [v4] 
    all_goals omega
  rename_i hn
  simp only [Bool.or_eq_true, decide_eq_true_eq, not_or] at hn
  split
  · have hm : 0 < (if many - 1 - k < 3 then many - 1 - k else 3) ∧ (if many - 1 - k < 3 then many - 1 - k else 3) ≤ many - 1 - k := by split <;> omega
    generalize (if many - 1 - k < 3 then many - 1 - k else 3) = q at hm
    have a1 := Int.emod_nonneg rest (show q ≠ 0 by omega)
    have a2 := Int.emod_lt_of_pos rest hm.1
    omega
  · have a1 := Int.emod_nonneg rest (show many - 1 - k ≠ 0 by omega)
    have a2 := Int.emod_lt_of_pos rest (show 0 < many - 1 - k by omega)
    omega
section
variable {P : Program} {w : World} {K : Fg} {mg : Str → Option Value} {base : Heap}
theorem sc_law_tower_target : FnScope ["digit", "k", "many", "way", "rest"] ["digit", "k", "many"] (defScope s_law_tower_target) := ⟨rfl, rfl, rfl, by decide +kernel, rfl, by decide +kernel, by decide +kernel⟩
theorem ok_law_tower_target {f : Addr} {fd : FuncData} (F : Fun K "_law_tower_target" "_law_tower_target" s_law_tower_target f fd) (b : Bi mg)  : FnOk P w K mg base CX0 1 f fd ["digit", "k", "many"] (sp_law_tower_target K) := by
  refine fn_ok F sc_law_tower_target 2 rfl (fun _ => rfl) (fun cdv A outer s H E hr ⟨digit, k, many⟩ hp => ?_)
  dsimp only at hp ⊢
  refine b_cons (s_set 3 (e_mod (e_intI b.int (e_var 0)) e_int (by first | decide | omega)) ?_ sc_law_tower_target.nd)
  refine b_cons (s_set 4 (e_div (e_intI b.int (e_var 0)) e_int (by first | decide | omega)) ?_ sc_law_tower_target.nd)
  refine b_cons (s_if (t_cv (e_var 3) e_int cv_eqI) (fun h1 => ?_) (fun h1 => ?_))
  · have h1p := h1; try simp only [Bool.and_eq_true, Bool.or_eq_true, Bool.and_eq_false_iff, Bool.or_eq_false_iff, Bool.not_eq_true', Bool.not_eq_false', decide_eq_true_eq, decide_eq_false_iff_not] at h1p
    refine b_cons (s_ret (e_sub (e_mod (e_intI b.int (e_var 4)) (e_add (e_var 2) e_int) (by first | decide | omega)) e_int) (fun M v r => ?_))
    exact ret_is r (by unfold towerTargetM; dsimp only; rw [if_pos h1])
  · have h1p := h1; try simp only [Bool.and_eq_true, Bool.or_eq_true, Bool.and_eq_false_iff, Bool.or_eq_false_iff, Bool.not_eq_true', Bool.not_eq_false', decide_eq_true_eq, decide_eq_false_iff_not] at h1p
    refine b_nil ?_
    refine b_cons (s_if (TW.toT (w_or (t_cv (e_var 3) e_int cv_lt) (fun h => (w_or1 (t_cv (e_var 1) (e_sub (e_var 2) e_int) cv_eqI))))) (fun h2 => ?_) (fun h2 => ?_))
    · have h2p := h2; try simp only [Bool.and_eq_true, Bool.or_eq_true, Bool.and_eq_false_iff, Bool.or_eq_false_iff, Bool.not_eq_true', Bool.not_eq_false', decide_eq_true_eq, decide_eq_false_iff_not] at h2p
      refine b_cons (s_ret (e_ixL (EL.toE (el_lst (eh_cons (e_neg e_int) (eh_cons (e_neg e_int) (eh_cons (e_neg e_int) (eh_cons (e_neg e_int) (eh_cons (e_neg e_int) eh_nil))))))) (e_mod (e_intI b.int (e_var 4)) e_int (by first | decide | omega)) (atI_ix (by first | decide | omega | (simp only [List.length_cons, List.length_nil]; omega)) (by first | decide | omega | (simp only [List.length_cons, List.length_nil]; omega)))) (fun M v r => ?_))
      exact ret_is r (by unfold towerTargetM; dsimp only; rw [if_neg (nt h1), if_pos h2])
    · have h2p := h2; try simp only [Bool.and_eq_true, Bool.or_eq_true, Bool.and_eq_false_iff, Bool.or_eq_false_iff, Bool.not_eq_true', Bool.not_eq_false', decide_eq_true_eq, decide_eq_false_iff_not] at h2p
      refine b_nil ?_
      refine b_cons (s_if (t_cv (e_var 3) e_int cv_lt) (fun h3 => ?_) (fun h3 => ?_))
      · have h3p := h3; try simp only [Bool.and_eq_true, Bool.or_eq_true, Bool.and_eq_false_iff, Bool.or_eq_false_iff, Bool.not_eq_true', Bool.not_eq_false', decide_eq_true_eq, decide_eq_false_iff_not] at h3p
        refine b_cons (s_ret (e_add (e_add (e_var 1) e_int) (e_mod (e_intI b.int (e_var 4)) (e_min rfl b.min e_int (e_sub (e_sub (e_var 2) e_int) (e_var 1))) (by first | decide | omega))) (fun M v r => ?_))
        exact ret_is r (by unfold towerTargetM; dsimp only; rw [if_neg (nt h1), if_neg (nt h2), if_pos h3])
      · have h3p := h3; try simp only [Bool.and_eq_true, Bool.or_eq_true, Bool.and_eq_false_iff, Bool.or_eq_false_iff, Bool.not_eq_true', Bool.not_eq_false', decide_eq_true_eq, decide_eq_false_iff_not] at h3p
        refine b_nil ?_
        refine b_cons (s_ret (e_add (e_add (e_var 1) e_int) (e_mod (e_intI b.int (e_var 4)) (e_sub (e_sub (e_var 2) e_int) (e_var 1)) (by first | decide | omega))) (fun M v r => ?_))
        exact ret_is r (by unfold towerTargetM; dsimp only; rw [if_neg (nt h1), if_neg (nt h2), if_neg (nt h3)])
end

def towerSizesM (n e : Int) : List Int := (([4 * n] ++ (List.replicate n.toNat [8]).flatten) ++ (List.replicate n.toNat [2 * e]).flatten) ++ (List.replicate (n * e).toNat [16 * (n + 3)]).flatten
structure GoodTower (row : List Int) (n e : Int) : Prop where
  len : (row.length : Int) = 1 + 2 * n + n * e
  h0 : 0 ≤ ix row 0 ∧ ix row 0 < 4 * n
  h1 : ∀ k : Int, 0 ≤ k → k < n → 0 ≤ ix row (1 + k) ∧ ix row (1 + k) < 8
theorem flat1 (n : Nat) (x : Int) : (List.replicate n [x]).flatten = List.replicate n x := by
  induction n with
  | zero => rfl
  | succ n ih => rw [List.replicate_succ, List.flatten_cons, ih]; rfl
theorem towerSizes_ok {n e : Int} (h0 : 2 ≤ n) (h1 : n ≤ 40) (h2 : 2 ≤ e) (h3 : e ≤ 20) : (towerSizesM n e).length ≤ 3000 ∧ ∀ s ∈ towerSizesM n e, 0 < s ∧ s < 1073741824 := by
  have hm := mul_le_800 (n := n) (e := e) (by omega) h1 (by omega) h3
  unfold towerSizesM
  rw [flat1, flat1, flat1]
  refine ⟨?_, fun s hs => ?_⟩
  · simp only [List.length_append, List.length_cons, List.length_nil, List.length_replicate]; omega
  · simp only [List.mem_append, List.mem_singleton, List.mem_replicate] at hs
    rcases hs with ((rfl | ⟨_, rfl⟩) | ⟨_, rfl⟩) | ⟨_, rfl⟩ <;> omega
theorem digits_tower {n e : Int} (c : Int) (h0 : 2 ≤ n) (h1 : n ≤ 40) (h2 : 2 ≤ e) (h3 : e ≤ 20) : GoodTower (digitsM c (towerSizesM n e)) n e := by
  have hm := mul_le_800 (n := n) (e := e) (by omega) h1 (by omega) h3
  have ok := towerSizes_ok h0 h1 h2 h3
  have p := dig_good c (towerSizesM n e) (fun s hs => (ok.2 s hs).1)
  have he : towerSizesM n e = 4 * n :: (List.replicate n.toNat 8 ++ (List.replicate n.toNat (2 * e) ++ List.replicate (n * e).toNat (16 * (n + 3)))) := by
    unfold towerSizesM; rw [flat1, flat1, flat1]; simp
  have hl : ((towerSizesM n e).length : Int) = 1 + 2 * n + n * e := by
    rw [he]; simp only [List.length_cons, List.length_append, List.length_replicate]; omega
  refine ⟨by rw [digits_len]; exact hl, ?_, fun k k0 k1 => ?_⟩
  · have := ix_paired p (i := 0) (by omega) (by omega)
    rw [show ix (towerSizesM n e) 0 = 4 * n by rw [he]; exact ix_getElem (by omega) rfl] at this
    exact this
  · have := ix_paired p (i := 1 + k) (by omega) (by omega)
    have e0 : ix (towerSizesM n e) (1 + k) = 8 := by
      apply ix_getElem (by omega)
      rw [he, show (1 + k).toNat = k.toNat + 1 by omega, List.getElem?_cons_succ, List.getElem?_append_left (by rw [List.length_replicate]; omega), List.getElem?_replicate, if_pos (by omega)]
    rw [e0] at this; exact this
def sp_law_tower_sizes (K : Fg) : Sp := spG K (fun i : Int × Int => [.vl tI i.1, .vl tI i.2]) (fun i => (2 ≤ i.1 ∧ i.1 ≤ 40) ∧ 2 ≤ i.2 ∧ i.2 ≤ 20) (tLst tI) (fun i => towerSizesM i.1 i.2)
section
variable {P : Program} {w : World} {K : Fg} {mg : Str → Option Value} {base : Heap}
theorem sc_law_tower_sizes : FnScope ["n", "e"] ["n", "e"] (defScope s_law_tower_sizes) := ⟨rfl, rfl, rfl, by decide +kernel, rfl, by decide +kernel, by decide +kernel⟩
theorem ok_law_tower_sizes {f : Addr} {fd : FuncData} (F : Fun K "_law_tower_sizes" "_law_tower_sizes" s_law_tower_sizes f fd) (b : Bi mg)  : FnOk P w K mg base CX0 1 f fd ["n", "e"] (sp_law_tower_sizes K) := by
  refine fn_ok F sc_law_tower_sizes 0 rfl (fun _ => rfl) (fun cdv A outer s H E hr ⟨n, e⟩ hp => ?_)
  dsimp only at hp ⊢
  obtain ⟨⟨h0, h1⟩, h2, h3⟩ := hp
  have hm := mul_le_800 (n := n) (e := e) (by omega) h1 (by omega) h3
  have l : ∀ (k : Nat) (x : Int), ((List.replicate k [x]).flatten).length = k := fun k x => by rw [flat1, List.length_replicate]
  refine b_cons (s_ret (EL.toE (el_cat (EL.toE (el_cat (EL.toE (el_cat (EL.toE (el_lst (eh_cons (e_mulL e_int (e_var 0) (by decide)) eh_nil))) (EL.toE (el_rep (EL.toE (el_lst (eh_cons e_int eh_nil))) (e_var 0) (by omega) (by simp only [List.length_cons, List.length_nil]; omega))) (by simp only [List.length_cons, List.length_nil, l]; omega))) (EL.toE (el_rep (EL.toE (el_lst (eh_cons (e_mulL e_int (e_var 1) (by decide)) eh_nil))) (e_var 0) (by omega) (by simp only [List.length_cons, List.length_nil]; omega))) (by simp only [List.length_append, List.length_cons, List.length_nil, l]; omega))) (EL.toE (el_rep (EL.toE (el_lst (eh_cons (e_mulL e_int (e_add (e_var 0) e_int) (by decide)) eh_nil))) (e_mulL (e_var 0) (e_var 1) (by omega)) (by omega) (by simp only [List.length_cons, List.length_nil]; omega))) (by simp only [List.length_append, List.length_cons, List.length_nil, l]; omega))) (fun M v r => ?_))
  exact r
end

def sp_law_tower (K : Fg) : Sp := spE K (fun i : List Int × Int × Int => [.vl (tLst tI) i.1, .vl tI i.2.1, .vl tI i.2.2]) (fun i => ((2 ≤ i.2.1 ∧ i.2.1 ≤ 40) ∧ 4 ≤ i.2.2 ∧ i.2.2 ≤ 20) ∧ GoodTower i.1 i.2.1 i.2.2) (tTup (tTup tI)) (fun i y => Good y i.2.1 i.2.2)
section
variable {P : Program} {w : World} {K : Fg} {mg : Str → Option Value} {base : Heap}
theorem sc_law_tower : FnScope ["row", "n", "e", "many", "kinds", "back", "k", "form", "size", "own", "rest", "j", "whole", "turn"] ["row", "n", "e"] (defScope s_law_tower) := ⟨rfl, rfl, rfl, by decide +kernel, rfl, by decide +kernel, by decide +kernel⟩
theorem ok_law_tower {f : Addr} {fd : FuncData} (F : Fun K "_law_tower" "_law_tower" s_law_tower f fd) (b : Bi mg) (C_law_tower_target : Fn P w K mg base CX0 1 "_law_tower_target" ["digit", "k", "many"] (sp_law_tower_target K)) : FnOk P w K mg base CX0 2 f fd ["row", "n", "e"] (sp_law_tower K) := by
  refine fn_okE F sc_law_tower 11 rfl (fun _ => rfl) (fun cdv A outer s H E hr ⟨row, n, e⟩ hp => ?_)
  dsimp only at hp ⊢
  obtain ⟨⟨⟨n0, n1⟩, e0, e1⟩, hl, h0, h1⟩ := hp
  have hne := mul_le_800 (n := n) (e := e) (by omega) n1 (by omega) e1
  refine b_cons (s_set 3 (e_add e_int (e_ixL (e_var 0) e_int (atI_ix (by omega) (by omega)))) ?_ sc_law_tower.nd)
  refine b_cut (fun G' => ∃ many : Int, (1 ≤ many ∧ many ≤ n) ∧ G' = [.vl (tLst tI) row, .vl tI n, .vl tI e, .vl tI many, .un, .un, .un, .un, .un, .un, .un, .un, .un, .un]) (s_if (t_cv (e_ixL (e_var 0) e_int (atI_ix (by omega) (by omega))) (e_var 1) cv_ge) (fun h => ?_) (fun h => ?_)) ?_
  · refine b_cons (s_set 3 (e_sub (e_var 1) (e_mod (e_intI b.int (e_ixL (e_var 0) e_int (atI_ix (by omega) (by omega)))) (e_div (e_add (e_var 1) e_int) e_int (by omega)) (by omega))) ?_ sc_law_tower.nd)
    have a1 := Int.emod_nonneg (ix row 0) (show (n + 1) / 2 ≠ 0 by omega)
    have a2 := Int.emod_lt_of_pos (ix row 0) (show 0 < (n + 1) / 2 by omega)
    exact b_nil ⟨_, by omega, rfl⟩
  · have h' := of_decide_eq_false h
    exact b_nil ⟨_, by omega, rfl⟩
  rintro _ ⟨many, ⟨m0, m1⟩, rfl⟩
  refine b_cons (s_own 4 (el_lst (s := tTup tI) eh_nil) ?_ sc_law_tower.nd)
  refine b_cons (s_set 5 e_int ?_ sc_law_tower.nd)
  refine b_cons (s_forR 6 (fun m G' => ∃ (xs : List (List Int)) (back : Int), (xs.length = m ∧ ∀ r ∈ xs, rowOk many e r) ∧ ((back = 0 ∨ back = 1) ∧ (m = 0 → back = 0)) ∧ G' = [.vl (tLst tI) row, .vl tI n, .vl tI e, .vl tI many, .ow (tTup tI) xs, .vl tI back, .un, .un, .un, .un, .un, .un, .un, .un]) _ b.range (e_var 3) (by omega) (Sub.refl _) ⟨[], 0, ⟨rfl, fun r h => by cases h⟩, ⟨.inl rfl, fun _ => rfl⟩, rfl⟩ ?_ ?_ sc_law_tower.nd rfl)
  · rintro m _ hm ⟨xs, back, ⟨hxl, hx⟩, ⟨hb, hb0⟩, rfl⟩
    have hf := h1 (m : Int) (by omega) (by omega)
    refine b_cons (s_set 7 (e_ixL (e_var 0) (e_add e_int (e_var 6)) (atI_ix (by omega) (by omega))) ?_ sc_law_tower.nd)
    refine b_cons (s_set 8 (e_mod (e_intI b.int (e_ixL (e_var 0) (e_add (e_add e_int (e_var 1)) (e_var 6)) (atI_ix (by omega) (by omega)))) (e_add (e_var 2) e_int) (by omega)) ?_ sc_law_tower.nd)
    generalize ix row (1 + (m : Int)) = form at hf ⊢
    generalize ix row (1 + n + (m : Int)) % (e + 1) = size
    refine b_cut (fun G' => ∃ form size : Int, G' = [.vl (tLst tI) row, .vl tI n, .vl tI e, .vl tI many, .ow (tTup tI) xs, .vl tI back, .vl tI (m : Int), .vl tI form, .vl tI size, .un, .un, .un, .un, .un]) (s_if (t_cv (e_var 6) e_int cv_eqI) (fun h => ?_) (fun h => ?_)) ?_
    · refine b_cons (s_set 7 (e_ixL (EL.toE (el_lst (eh_cons e_int (eh_cons e_int (eh_cons e_int (eh_cons e_int (eh_cons e_int (eh_cons e_int (eh_cons e_int (eh_cons e_int eh_nil)))))))))) (e_var 7) (atI_ix (by omega) (by simp only [List.length_cons, List.length_nil]; omega))) ?_ sc_law_tower.nd)
      exact b_cons (s_set 8 (e_max rfl b.max e_int (e_var 8)) (b_nil ⟨_, _, rfl⟩) sc_law_tower.nd)
    · exact b_nil ⟨_, _, rfl⟩
    rintro _ ⟨form, size, rfl⟩
    refine b_cons (s_own 9 (el_rep (EL.toE (el_lst (eh_cons (e_sub (e_var 6) e_int) eh_nil))) (e_var 5) (by omega) (by simp only [List.length_cons, List.length_nil]; omega)) ?_ sc_law_tower.nd)
    rw [flat1]
    refine b_cons (s_set 5 e_int ?_ sc_law_tower.nd)
    have ho : (List.replicate back.toNat ((m : Int) - 1)).length ≤ 1 ∧ ∀ t ∈ List.replicate back.toNat ((m : Int) - 1), -3 ≤ t ∧ t < many := by
      refine ⟨by rw [List.length_replicate]; omega, fun t ht => ?_⟩
      rw [List.eq_of_mem_replicate ht]; omega
    generalize List.replicate back.toNat ((m : Int) - 1) = own at ho ⊢
    refine b_cut (fun G' => ∃ own : List Int, ((own.length ≤ 1 ∨ (own.length ≤ 2 ∧ (form ≠ 4 ∧ form ≠ 5) ∧ (form ≠ 6 ∨ (m : Int) = many - 1))) ∧ ∀ t ∈ own, -3 ≤ t ∧ t < many) ∧ G' = [.vl (tLst tI) row, .vl tI n, .vl tI e, .vl tI many, .ow (tTup tI) xs, .vl tI 0, .vl tI (m : Int), .vl tI form, .vl tI size, .ow tI own, .un, .un, .un, .un]) (s_if (t_read 9 rfl (TW.toT (w_or (t_cv (e_var 7) (EL.toE (el_lst (eh_cons e_int (eh_cons e_int (eh_cons e_int eh_nil))))) cv_inL) (fun h => w_or1 (TW.toT (w_and (t_cv (e_var 7) (EL.toE (el_lst (eh_cons e_int (eh_cons e_int eh_nil)))) cv_inL) (fun h => w_and (t_cv (e_var 6) (e_sub (e_var 3) e_int) cv_eqI) (fun h => w_and1 (t_cv (e_lenL b.len (e_var 9)) e_int cv_eqI))))))))) (fun h => ?_) (fun h => ?_)) ?_
    · refine b_cons (s_app 9 rfl (e_var 6) (by omega) ?_)
      have hq := h
      simp only [Bool.or_eq_true, Bool.and_eq_true, decide_eq_true_eq, List.mem_cons, List.not_mem_nil, or_false] at hq
      refine b_nil ⟨_, ⟨.inr ⟨by rw [List.length_append, List.length_singleton]; omega, by omega, by omega⟩, fun t ht => ?_⟩, rfl⟩
      rcases List.mem_append.mp ht with z | z
      · exact ho.2 t z
      · rw [List.mem_singleton.mp z]; omega
    · exact b_nil ⟨_, ⟨.inl ho.1, ho.2⟩, rfl⟩
    rintro _ ⟨own2, ho2, rfl⟩
    refine b_cut (fun G' => ∃ own : List Int, (((own.length ≤ 2 ∧ (own.length ≤ 1 ∨ form ≠ 6 ∨ (m : Int) = many - 1)) ∨ (own.length ≤ 3 ∧ (form = 4 ∨ form = 5))) ∧ ∀ t ∈ own, -3 ≤ t ∧ t < many) ∧ G' = [.vl (tLst tI) row, .vl tI n, .vl tI e, .vl tI many, .ow (tTup tI) xs, .vl tI 0, .vl tI (m : Int), .vl tI form, .vl tI size, .ow tI own, .un, .un, .un, .un]) (s_if (t_cv (e_var 7) (EL.toE (el_lst (eh_cons e_int (eh_cons e_int eh_nil)))) cv_inL) (fun h => ?_) (fun h => ?_)) ?_
    · refine b_cons (s_own 9 (el_read 9 rfl imm_I (el_cat (e_var 9) (EL.toE (el_lst (eh_cons (e_var 6) (eh_cons (e_var 6) eh_nil)))) (by simp only [List.length_cons, List.length_nil]; omega))) ?_ sc_law_tower.nd)
      have hq := h
      simp only [decide_eq_true_eq, List.mem_cons, List.not_mem_nil, or_false] at hq
      refine b_nil ⟨_, ⟨.inr ⟨by simp only [List.length_append, List.length_cons, List.length_nil]; omega, hq⟩, fun t ht => ?_⟩, rfl⟩
      rcases List.mem_append.mp ht with z | z
      · exact ho2.2 t z
      · simp only [List.mem_cons, List.not_mem_nil, or_false, or_self] at z; omega
    · exact b_nil ⟨_, ⟨.inl ⟨by omega, by omega⟩, ho2.2⟩, rfl⟩
    rintro _ ⟨own3, ho3, rfl⟩
    refine b_cut (fun G' => ∃ (own : List Int) (back : Int), ((own.length ≤ 3 ∧ ∀ t ∈ own, -3 ≤ t ∧ t < many) ∧ (back = 0 ∨ back = 1)) ∧ G' = [.vl (tLst tI) row, .vl tI n, .vl tI e, .vl tI many, .ow (tTup tI) xs, .vl tI back, .vl tI (m : Int), .vl tI form, .vl tI size, .ow tI own, .un, .un, .un, .un]) (s_if (TW.toT (w_and (t_cv (e_var 7) e_int cv_eqI) (fun h => w_and1 (t_cv (e_var 6) (e_sub (e_var 3) e_int) cv_lt)))) (fun h => ?_) (fun h => ?_)) ?_
    · have hq := h
      simp only [Bool.and_eq_true, decide_eq_true_eq] at hq
      obtain ⟨hq6, hk⟩ := hq
      refine b_cons (s_app 9 rfl (e_add (e_var 6) e_int) (by omega) ?_)
      refine b_cons (s_set 5 e_int (b_nil ⟨_, _, ⟨⟨by simp only [List.length_append, List.length_cons, List.length_nil]; omega, fun t ht => ?_⟩, .inr rfl⟩, rfl⟩) sc_law_tower.nd)
      rcases List.mem_append.mp ht with z | z
      · exact ho3.2 t z
      · rw [List.mem_singleton.mp z]; omega
    · exact b_nil ⟨_, _, ⟨⟨by omega, ho3.2⟩, .inl rfl⟩, rfl⟩
    rintro _ ⟨own4, bk, ⟨ho4, hbk⟩, rfl⟩
    have hix := fun (j : Nat) (hj : (j : Int) < e) => mul_lt' (k := (m : Int)) (n := n) (e := e) (j := (j : Int)) (by omega) (by omega) (by omega) hj
    have hix0 := mul_lt' (k := (m : Int)) (n := n) (e := e) (j := 0) (by omega) (by omega) (by omega) (by omega)
    refine b_cons (s_lc 10 (lc_R (f := fun j : Nat => towerTargetM (ix row (1 + 2 * n + (m : Int) * e + (j : Int))) (m : Int) many) (own := [("j", 11)]) b.range (e_var 2) (by omega) 11 (fun s0 H C cl fp j hj => (e_call C_law_tower_target (hr.mono (by decide)) (ix row (1 + 2 * n + (m : Int) * e + (j : Int)), (m : Int), many) (ea_cons (e_ixL (e_var 0) (e_add (e_add (e_add e_int (e_mulL e_int (e_var 1) (by decide))) (e_mulL (e_var 6) (e_var 2) (by omega))) (e_var 11)) (atI_ix (by have := hix j hj; omega) (by have := hix j hj; omega))) (ea_cons (e_var 6) (ea_cons (e_var 3) ea_nil))) (show (0 ≤ (m : Int) ∧ (m : Int) < many) ∧ many ≤ 1000 from ⟨by omega, by omega⟩))) (blkOk_by (N := ["row", "n", "e", "many", "kinds", "back", "k", "form", "size", "own", "rest", "j", "whole", "turn"]) (sc := defScope s_law_tower) (by decide +kernel)) (fun _ _ _ _ _ => pg_name sc_law_tower.nd rfl (by first | exact Or.inl rfl | exact Or.inr rfl))) ?_ rfl sc_law_tower.nd)
    refine b_freeze 10 rfl ?_
    have hrest : ∀ t ∈ (List.range e.toNat).map (fun j : Nat => towerTargetM (ix row (1 + 2 * n + (m : Int) * e + (j : Int))) (m : Int) many), -3 ≤ t ∧ t < many := fun t ht => by
      obtain ⟨j, _, rfl⟩ := List.mem_map.mp ht
      exact tower_t _ _ _ (by omega) (by omega)
    have hrl : ((List.range e.toNat).map (fun j : Nat => towerTargetM (ix row (1 + 2 * n + (m : Int) * e + (j : Int))) (m : Int) many)).length = e.toNat := by simp
    generalize (List.range e.toNat).map (fun j : Nat => towerTargetM (ix row (1 + 2 * n + (m : Int) * e + (j : Int))) (m : Int) many) = rest at hrest hrl ⊢
    have hw0 : 0 ≤ (if (if e - (own4.length : Int) < size then e - (own4.length : Int) else size) > 0 then (if e - (own4.length : Int) < size then e - (own4.length : Int) else size) else 0) ∧ (own4.length : Int) + (if (if e - (own4.length : Int) < size then e - (own4.length : Int) else size) > 0 then (if e - (own4.length : Int) < size then e - (own4.length : Int) else size) else 0) ≤ e := by
      split <;> split <;> omega
    have hcl : (cut rest none (some (if (if e - (own4.length : Int) < size then e - (own4.length : Int) else size) > 0 then (if e - (own4.length : Int) < size then e - (own4.length : Int) else size) else 0))).length ≤ rest.length := by
      rw [cut_upto rest hw0.1, List.length_take]; omega
    refine b_cons (s_own 12 (el_read 9 rfl imm_I (el_cat (e_var 9) (EL.toE (el_slice (e_var 10) eo_none (eo_some (e_max rfl b.max e_int (e_min rfl b.min (e_var 8) (e_sub (e_var 2) (e_lenL b.len (e_var 9)))))))) (by omega))) ?_ sc_law_tower.nd)
    have hwl : ((own4 ++ cut rest none (some (if (if e - (own4.length : Int) < size then e - (own4.length : Int) else size) > 0 then (if e - (own4.length : Int) < size then e - (own4.length : Int) else size) else 0))).length : Int) ≤ e := by
      rw [cut_upto rest hw0.1, List.length_append, List.length_take]; omega
    have hwt : ∀ t ∈ own4 ++ cut rest none (some (if (if e - (own4.length : Int) < size then e - (own4.length : Int) else size) > 0 then (if e - (own4.length : Int) < size then e - (own4.length : Int) else size) else 0)), -3 ≤ t ∧ t < many := fun t ht => by
      rcases List.mem_append.mp ht with z | z
      · exact ho4.2 t z
      · rw [cut_upto rest hw0.1] at z
        exact hrest t (List.mem_of_mem_take z)
    generalize own4 ++ cut rest none (some (if (if e - (own4.length : Int) < size then e - (own4.length : Int) else size) > 0 then (if e - (own4.length : Int) < size then e - (own4.length : Int) else size) else 0)) = whole at hwl hwt ⊢
    refine b_freeze 12 rfl ?_
    have hq : 0 < (if (whole.length : Int) > 1 then (whole.length : Int) else 1) := by split <;> omega
    refine b_cons (s_set 13 (e_mod (e_div (e_intI b.int (e_ixL (e_var 0) (e_add (e_add e_int (e_mulL e_int (e_var 1) (by decide))) (e_mulL (e_var 6) (e_var 2) (by omega))) (atI_ix (by omega) (by omega)))) e_int (by omega)) (e_max rfl b.max e_int (e_lenL b.len (e_var 12))) hq) ?_ sc_law_tower.nd)
    have htn := Int.emod_nonneg (ix row (1 + 2 * n + (m : Int) * e) / 16) (show (if (whole.length : Int) > 1 then (whole.length : Int) else 1) ≠ 0 by omega)
    generalize ix row (1 + 2 * n + (m : Int) * e) / 16 % (if (whole.length : Int) > 1 then (whole.length : Int) else 1) = turn at htn ⊢
    have hll : (cut whole (some turn) none).length + (cut whole none (some turn)).length = whole.length := by
      rw [cut_from whole htn, cut_upto whole htn, List.length_drop, List.length_take]; omega
    refine b_cons (s_app 4 rfl (e_tupL b.tuple (EL.toE (el_cat (EL.toE (el_slice (e_var 12) (eo_some (e_var 13)) eo_none)) (EL.toE (el_slice (e_var 12) eo_none (eo_some (e_var 13)))) (by omega)))) (by omega) ?_)
    refine B.weak (b_nil ⟨_, bk, ⟨by rw [List.length_append, hxl]; rfl, fun r hr => ?_⟩, ⟨hbk, fun z => by omega⟩, rfl⟩) (.same (.same (.same (.same (.same (.same (.un (.un (.un (.un (.un (.un (.un (.un .nil))))))))))))))
    rcases List.mem_append.mp hr with z | z
    · exact hx r z
    · rw [List.mem_singleton.mp z]
      refine ⟨by rw [List.length_append, hll]; exact hwl, fun t ht => ?_⟩
      rw [cut_from whole htn, cut_upto whole htn] at ht
      rcases List.mem_append.mp ht with z | z
      · exact hwt t (List.mem_of_mem_drop z)
      · exact hwt t (List.mem_of_mem_take z)
  · rintro _ ⟨xs, back, ⟨hxl, hx⟩, _, rfl⟩
    refine b_cons (s_ret (e_read 4 rfl (imm_T (imm_T imm_I)) (e_tupL b.tuple (e_var 4))) (fun M v r => ⟨xs, ⟨by omega, by omega, fun r hr => ?_⟩, r⟩))
    have := hx r hr
    rw [hxl]
    exact ⟨this.1, fun t ht => by have := this.2 t ht; omega⟩
end

def sp_law_order (K : Fg) : Sp := spE K (fun i : List Int × Int => [.vl (tLst tI) i.1, .vl tI i.2]) (fun i => (0 ≤ i.2 ∧ i.2 ≤ 1000) ∧ i.2 ≤ i.1.length) (tLst tI) (fun i y => (y.length : Int) = i.2 ∧ inR i.2 y)
section
variable {P : Program} {w : World} {K : Fg} {mg : Str → Option Value} {base : Heap}
theorem sc_law_order : FnScope ["row", "many", "waiting", "told", "k", "at"] ["row", "many"] (defScope s_law_order) := ⟨rfl, rfl, rfl, by decide +kernel, rfl, by decide +kernel, by decide +kernel⟩
theorem ok_law_order {f : Addr} {fd : FuncData} (F : Fun K "_law_order" "_law_order" s_law_order f fd) (b : Bi mg) : FnOk P w K mg base CX0 1 f fd ["row", "many"] (sp_law_order K) := by
  refine fn_okE F sc_law_order 4 rfl (fun _ => rfl) (fun cdv A outer s H E hr ⟨row, many⟩ hp => ?_)
  dsimp only at hp ⊢
  obtain ⟨⟨h0, h1⟩, h2⟩ := hp
  refine b_cons (s_own 2 (el_listR rfl b.list b.range (e_var 1) (by omega)) ?_ sc_law_order.nd)
  refine b_cons (s_own 3 (el_lst (s := tI) eh_nil) ?_ sc_law_order.nd)
  refine b_cons (s_forR 4 (fun m G' => ∃ ws ts : List Int, (((ws.length : Int) = many - m ∧ inR many ws) ∧ ts.length = m ∧ inR many ts) ∧ G' = [.vl (tLst tI) row, .vl tI many, .ow tI ws, .ow tI ts, .un, .un]) _ b.range (e_var 1) (by omega) (Sub.refl _) ⟨firstN many, [], ⟨⟨by rw [firstN_len]; omega, firstN_in⟩, rfl, fun t h => by cases h⟩, rfl⟩ ?_ ?_ sc_law_order.nd rfl)
  · rintro m _ hm ⟨ws, ts, ⟨⟨hwl, hwi⟩, htl, hti⟩, rfl⟩
    refine b_cons (s_set 5 (e_read 2 rfl imm_I (e_mod (e_intI b.int (e_ixL (e_var 0) (e_var 4) (atI_ix (by omega) (by omega)))) (e_lenL b.len (e_var 2)) (by omega))) ?_ sc_law_order.nd)
    have a1 := Int.emod_nonneg (ix row (m : Int)) (show (ws.length : Int) ≠ 0 by omega)
    have a2 := Int.emod_lt_of_pos (ix row (m : Int)) (show 0 < (ws.length : Int) by omega)
    generalize ix row (m : Int) % (ws.length : Int) = at' at a1 a2 ⊢
    refine b_freeze 2 rfl ?_
    refine b_cons (s_app 3 rfl (e_ixL (e_var 2) (e_var 5) (atI_ix (by omega) (by omega))) (by omega) ?_)
    have c1 := cut_upto ws a1
    have c2 := cut_from ws (show 0 ≤ at' + 1 by omega)
    refine b_cons (s_own 2 (el_cat (EL.toE (el_slice (e_var 2) eo_none (eo_some (e_var 5)))) (EL.toE (el_slice (e_var 2) (eo_some (e_add (e_var 5) e_int)) eo_none)) (by rw [c1, c2, List.length_take, List.length_drop]; omega)) ?_ sc_law_order.nd)
    rw [c1, c2]
    refine B.weak (b_nil ⟨_, _, ⟨⟨by rw [List.length_append, List.length_take, List.length_drop]; omega, fun t ht => ?_⟩, by rw [List.length_append]; simp; omega, fun t ht => ?_⟩, rfl⟩) (.same (.same (.same (.same (.un (.un .nil))))))
    · rcases List.mem_append.mp ht with z | z
      · exact hwi t (List.mem_of_mem_take z)
      · exact hwi t (List.mem_of_mem_drop z)
    · rcases List.mem_append.mp ht with z | z
      · exact hti t z
      · rw [List.mem_singleton.mp z]; exact hwi _ (ix_mem (by omega) (by omega))
  · rintro _ ⟨ws, ts, ⟨⟨hwl, hwi⟩, htl, hti⟩, rfl⟩
    refine b_freeze 3 rfl ?_
    exact b_cons (s_ret (e_var 3) (fun M v r => ⟨ts, ⟨by omega, hti⟩, r⟩))
end

def sp_law_twin (K : Fg) : Sp := spE K (fun i : List (List Int) × Int × Int => [.vl (tTup (tTup tI)) i.1, .vl tI i.2.1, .vl tI i.2.2]) (fun i => Good i.1 40 20 ∧ 0 ≤ i.2.1 ∧ i.2.1 < i.1.length) (tTup (tTup tI)) (fun i y => Good y 40 20)
section
variable {P : Program} {w : World} {K : Fg} {mg : Str → Option Value} {base : Heap}
theorem sc_law_twin : FnScope ["kinds", "c", "place", "told", "kind", "k", "at"] ["kinds", "c", "place"] (defScope s_law_twin) := ⟨rfl, rfl, rfl, by decide +kernel, rfl, by decide +kernel, by decide +kernel⟩
theorem ok_law_twin {f : Addr} {fd : FuncData} (F : Fun K "_law_twin" "_law_twin" s_law_twin f fd) (b : Bi mg) : FnOk P w K mg base CX0 1 f fd ["kinds", "c", "place"] (sp_law_twin K) := by
  refine fn_okE F sc_law_twin 4 rfl (fun _ => rfl) (fun cdv A outer s H E hr ⟨kinds, c, place⟩ hp => ?_)
  dsimp only at hp ⊢
  obtain ⟨hg, c0, c1⟩ := hp
  have hlen := hg.len
  refine b_cons (s_lc 3 (lc_T (f := fun x : List Int => x) (own := [("kind", 4)]) (e_var 0) 4 (fun s0 H C cl fp m x hx => (EL.toE (el_listT b.list (e_var 4)))) (blkOk_by (N := ["kinds", "c", "place", "told", "kind", "k", "at"]) (sc := defScope s_law_twin) (by decide +kernel)) (by omega) (fun _ _ _ _ _ => pg_name sc_law_twin.nd rfl (by first | exact Or.inl rfl | exact Or.inr rfl))) ?_ rfl sc_law_twin.nd)
  rw [List.map_id']
  refine b_cons (s_if (t_read 3 rfl (t_cv (e_lenL b.len (e_var 3)) e_int cv_gt)) (fun h1 => ?_) (fun h1 => ?_))
  · exact b_cons (s_ret (e_var 0) (fun M v r => ⟨kinds, hg, r⟩))
  · have h1 := of_decide_eq_false h1
    refine b_nil ?_
    refine b_cons (s_forR 5 (fun m G' => ∃ td : List (List Int), (td.length = kinds.length ∧ ∀ r ∈ td, rowOk (kinds.length + 1) 20 r) ∧ G' = [.vl (tTup (tTup tI)) kinds, .vl tI c, .vl tI place, .ow (tLst tI) td, .un, .un, .un]) _ b.range (e_read 3 rfl imm_I (e_lenL b.len (e_var 3))) (by omega) (Sub.refl _) ⟨kinds, ⟨rfl, fun r hr => ⟨(hg.row r hr).1, fun t ht => by have := (hg.row r hr).2 t ht; omega⟩⟩, rfl⟩ ?_ ?_ sc_law_twin.nd rfl)
    · rintro m _ hm ⟨td, ⟨hl, hrw⟩, rfl⟩
      have hat : atI td (m : Int) = some (ix td (m : Int)) := atI_ix (by omega) (by omega)
      have hrm := hrw _ (ix_mem (xs := td) (i := (m : Int)) (by omega) (by omega))
      obtain ⟨q1, q2⟩ := hrm
      refine b_cut (fun G' => ∃ a, ∃ td : List (List Int), (td.length = kinds.length ∧ ∀ r ∈ td, rowOk (kinds.length + 1) 20 r) ∧ G' = [.vl (tTup (tTup tI)) kinds, .vl tI c, .vl tI place, .ow (tLst tI) td, .un, .vl tI (m : Int), a]) (s_if (TW.toT (w_and (t_cv (e_var 1) (e_ixOw 3 rfl (e_var 5) hat) cv_inL) (fun _ => (w_and1 (t_cv (e_lenL b.len (e_ixOw 3 rfl (e_var 5) hat)) e_int cv_lt))))) (fun h => ?_) (fun h => b_nil ⟨_, td, ⟨hl, hrw⟩, rfl⟩)) ?_
      · have h20 := of_decide_eq_true ((Bool.and_eq_true _ _).mp h).2
        generalize hrr : ix td (m : Int) = row at q1 q2 h20 hat
        refine b_cons (s_set 6 (e_mod (e_intI b.int (e_var 2)) (e_add (e_lenL b.len (e_ixOw 3 rfl (e_var 5) hat)) e_int) (by omega)) ?_ sc_law_twin.nd)
        have a1 := Int.emod_nonneg place (show (row.length : Int) + 1 ≠ 0 by omega)
        have a2 := Int.emod_lt_of_pos place (show 0 < (row.length : Int) + 1 by omega)
        generalize place % ((row.length : Int) + 1) = at_ at a1 a2 ⊢
        have e1 := cut_upto row a1
        have e2 := cut_from row a1
        refine b_cons (s_seti 3 (m := m) rfl (EL.toE (el_cat (EL.toE (el_cat (EL.toE (el_slice (e_ixOw 3 rfl (e_var 5) hat) eo_none (eo_some (e_var 6)))) (EL.toE (el_lst (eh_cons (e_lenT b.len (e_var 0)) eh_nil))) (by rw [e1, List.length_take]; simp only [List.length_cons, List.length_nil]; omega))) (EL.toE (el_slice (e_ixOw 3 rfl (e_var 5) hat) (eo_some (e_var 6)) eo_none)) (by rw [e1, e2, List.length_append, List.length_take, List.length_drop]; simp only [List.length_cons, List.length_nil]; omega))) (e_var 5) (by rw [ixNp (by omega) (by omega), Int.toNat_natCast]) ?_)
        refine b_nil ⟨_, _, ⟨by rw [List.length_set]; exact hl, fun r hr' => ?_⟩, rfl⟩
        rcases List.mem_or_eq_of_mem_set hr' with z | z
        · exact hrw r z
        · subst z
          rw [e1, e2]
          refine ⟨by simp only [List.length_append, List.length_take, List.length_drop, List.length_cons, List.length_nil]; omega, fun t ht => ?_⟩
          rcases List.mem_append.mp ht with y | y
          · rcases List.mem_append.mp y with y | y
            · exact q2 t (List.mem_of_mem_take y)
            · rw [List.mem_singleton.mp y]; omega
          · exact q2 t (List.mem_of_mem_drop y)
      · rintro _ ⟨a, td, q, rfl⟩
        exact B.weak (b_nil ⟨td, q, rfl⟩) (.same (.same (.same (.same (.same (.un (.un .nil)))))))
    · rintro _ ⟨td, ⟨hl, hrw⟩, rfl⟩
      have hat : atI td c = some (ix td c) := atI_ix (by omega) (by omega)
      have hrc := hrw _ (ix_mem (xs := td) (i := c) (by omega) (by omega))
      refine b_cons (s_app 3 rfl (EL.toE (el_listL b.list (e_ixOw 3 rfl (e_var 1) hat))) (by omega) ?_)
      refine b_freeze 3 rfl ?_
      refine b_cons (s_ret (e_tupL b.tuple (EL.toE (el_lc (lc_L (f := fun x : List Int => x) (own := [("kind", 4)]) (e_var 3) 4 (fun s0 H C cl fp m x hx => (e_tupL b.tuple (e_var 4))) (blkOk_by (N := ["kinds", "c", "place", "told", "kind", "k", "at"]) (sc := defScope s_law_twin) (by decide +kernel)) (by rw [List.length_append, List.length_singleton]; omega) (fun _ _ _ _ _ => pg_name sc_law_twin.nd rfl (by first | exact Or.inl rfl | exact Or.inr rfl))) rfl sc_law_twin.nd))) (fun M v r => ⟨_, ?_, r⟩))
      rw [List.map_id']
      have hpos := hg.pos
      have hll : (td ++ [ix td c]).length = kinds.length + 1 := by rw [List.length_append, List.length_singleton, hl]
      refine ⟨by omega, by omega, fun r hr' => ?_⟩
      rw [hll]
      rcases List.mem_append.mp hr' with y | y
      · exact hrw r y
      · rw [List.mem_singleton.mp y]; exact hrc
end

def knitSizes : List Int := ((([2, 2, 39, 5] ++ [3, 4, 5, 40, 40, 5, 40]) ++ (List.replicate 3 [40, 40, 3, 4]).flatten) ++ [4, 40]) ++ (List.replicate 20 [150]).flatten
theorem knit_row (c : Int) : KnitRow (cut (digitsM c knitSizes) (some 4) none) := by
  have p := dig_good c knitSizes (by decide)
  have hl := digits_len c knitSizes
  have hk : knitSizes.length = 45 := by decide
  rw [hk] at hl
  have e : ∀ i : Int, 0 ≤ i → i < 41 → ix (cut (digitsM c knitSizes) (some 4) none) i = ix (digitsM c knitSizes) (i + 4) := fun i h0 h1 => by
    rw [cut_from _ (by decide)]
    apply ix_getElem h0
    rw [List.getElem?_drop]
    have := ixSome (xs := digitsM c knitSizes) (i := i + 4) (by omega) (by omega)
    rw [show (4 : Int).toNat + i.toNat = (i + 4).toNat by omega]
    exact this
  refine ⟨by rw [cut_from _ (by decide), List.length_drop, hl]; decide, ?_, fun k h0 h1 => ?_⟩
  · rw [e 1 (by omega) (by omega)]
    exact ix_paired p (i := 5) (by omega) (by rw [hk]; omega)
  · rw [e _ (by omega) (by omega)]
    have q := ix_paired p (i := 9 + 4 * k + 4) (by omega) (by rw [hk]; omega)
    have : k = 0 ∨ k = 1 ∨ k = 2 := by omega
    rcases this with rfl | rfl | rfl <;> exact q
def downSizes : List Int := (List.range 40).map fun k : Nat => 40 - (k : Int)
def sp_law_drawn (K : Fg) : Sp := spE K (fun i : List Int => [.vl (tSq tI) i]) (fun i => i.length ≤ 63) (tTup (tTup tI)) (fun i y => Good y 40 20)
section
variable {P : Program} {w : World} {K : Fg} {mg : Str → Option Value} {base : Heap}
theorem sc_law_drawn : FnScope ["script", "row", "kinds", "k"] ["script"] (defScope s_law_drawn) := ⟨rfl, rfl, rfl, by decide +kernel, rfl, by decide +kernel, by decide +kernel⟩
theorem ok_law_drawn {f : Addr} {fd : FuncData} (F : Fun K "_law_drawn" "_law_drawn" s_law_drawn f fd) (b : Bi mg)
    (C_law_digits : Fn P w K mg base CX0 1 "_law_digits" ["cell", "sizes"] (sp_law_digits K)) (C_law_cell : Fn P w K mg base CX0 1 "_law_cell" ["script", "k"] (sp_law_cell K))
    (C_law_book_sizes : Fn P w K mg base CX0 1 "_law_book_sizes" ["n", "e"] (sp_law_book_sizes K)) (C_law_book : Fn P w K mg base CX0 2 "_law_book" ["row", "n", "e"] (sp_law_book K))
    (C_law_tower_sizes : Fn P w K mg base CX0 1 "_law_tower_sizes" ["n", "e"] (sp_law_tower_sizes K)) (C_law_tower : Fn P w K mg base CX0 2 "_law_tower" ["row", "n", "e"] (sp_law_tower K))
    (C_law_broad : Fn P w K mg base CX0 1 "_law_broad" ["kinds", "row", "limit"] (sp_law_broad K)) (C_law_knit : Fn P w K mg base CX0 2 "_law_knit" ["kinds", "row"] (sp_law_knit K))
    (C_law_twin : Fn P w K mg base CX0 1 "_law_twin" ["kinds", "c", "place"] (sp_law_twin K)) (C_law_order : Fn P w K mg base CX0 1 "_law_order" ["row", "many"] (sp_law_order K)) (C_law_renumbered : Fn P w K mg base CX0 2 "_law_renumbered" ["kinds", "order"] (sp_law_renumbered K)) : FnOk P w K mg base CX0 3 f fd ["script"] (sp_law_drawn K) := by
  refine fn_okE F sc_law_drawn 3 rfl (fun _ => rfl) (fun cdv A outer s H E hr script hp => ?_)
  have cell : ∀ k : Int, 0 ≤ k → k < 100 → (script.length ≤ 63 ∧ (0:Int) ≤ k ∧ k < 100) := fun k a c => ⟨hp, a, c⟩
  refine b_cons (s_set 1 (e_call C_law_digits (hr.mono (by decide)) (cellM script 1, knitSizes) (ea_cons (e_call C_law_cell (hr.mono (by decide)) (script, 1) (ea_cons (e_var 0) (ea_cons e_int ea_nil)) (cell 1 (by omega) (by omega))) (ea_cons (EL.toE (el_cat (EL.toE (el_cat (EL.toE (el_cat (EL.toE (el_cat (EL.toE (el_lst (eh_cons e_int (eh_cons e_int (eh_cons e_int (eh_cons e_int eh_nil)))))) (EL.toE (el_lst (eh_cons e_int (eh_cons e_int (eh_cons e_int (eh_cons e_int (eh_cons e_int (eh_cons e_int (eh_cons e_int eh_nil))))))))) (by decide))) (EL.toE (el_rep (EL.toE (el_lst (eh_cons e_int (eh_cons e_int (eh_cons e_int (eh_cons e_int eh_nil)))))) e_int (by decide) (by decide))) (by decide))) (EL.toE (el_lst (eh_cons e_int (eh_cons e_int eh_nil)))) (by decide))) (EL.toE (el_rep (EL.toE (el_lst (eh_cons e_int eh_nil))) e_int (by decide) (by decide))) (by decide))) ea_nil)) (show knitSizes.length ≤ 3000 ∧ ∀ s ∈ knitSizes, 0 < s ∧ s < 1073741824 from by decide)) ?_ sc_law_drawn.nd)
  dsimp only
  have hrl := digits_len (cellM script 1) knitSizes
  have hkr := knit_row (cellM script 1)
  rw [show knitSizes.length = 45 from by decide] at hrl
  generalize digitsM (cellM script 1) knitSizes = row at hrl hkr ⊢
  refine b_cut (fun G' => ∃ ks, Good ks 40 4 ∧ G' = [.vl (tSq tI) script, .vl (tLst tI) row, .vl (tTup (tTup tI)) ks, .un]) (s_if (t_cv (e_ixL (e_var 1) e_int (atI_ix (by omega) (by omega))) e_int cv_eqI) (fun h => ?_) (fun h => ?_)) ?_
  · refine b_cons (s_set 2 (e_call C_law_book (hr.mono (by decide)) (digitsM (cellM script 0) (bookSizesM 40 4), 40, 4) (ea_cons (e_call C_law_digits (hr.mono (by decide)) (cellM script 0, bookSizesM 40 4) (ea_cons (e_call C_law_cell (hr.mono (by decide)) (script, 0) (ea_cons (e_var 0) (ea_cons e_int ea_nil)) (cell 0 (by omega) (by omega))) (ea_cons (e_call C_law_book_sizes (hr.mono (by decide)) (40, 4) (ea_cons e_int (ea_cons e_int ea_nil)) (by decide)) ea_nil)) (bookSizes_ok (n := 40) (e := 4) (by omega) (by omega) (by omega) (by omega))) (ea_cons e_int (ea_cons e_int ea_nil))) (show ((2 ≤ (40:Int) ∧ (40:Int) ≤ 40) ∧ 2 ≤ (4:Int) ∧ (4:Int) ≤ 20) ∧ GoodRow (digitsM (cellM script 0) (bookSizesM 40 4)) 40 4 from ⟨by decide, digits_goodRow _ (by omega) (by omega) (by omega) (by omega)⟩)) ?_ sc_law_drawn.nd)
    exact b_nil ⟨_, bookM_good (n := 40) (e := 4) (by omega) (by omega) (digits_goodRow (cellM script 0) (by omega) (by omega) (by omega) (by omega)), rfl⟩
  · exact b_cons (s_setX 2 (ex_call (PR := fun y => Good y 40 4) C_law_tower (hr.mono (by decide)) (EA.toX (ea_cons (e_call C_law_digits (hr.mono (by decide)) (cellM script 0, towerSizesM 40 4) (ea_cons (e_call C_law_cell (hr.mono (by decide)) (script, 0) (ea_cons (e_var 0) (ea_cons e_int ea_nil)) (cell 0 (by omega) (by omega))) (ea_cons (e_call C_law_tower_sizes (hr.mono (by decide)) (40, 4) (ea_cons e_int (ea_cons e_int ea_nil)) (by decide)) ea_nil)) (towerSizes_ok (n := 40) (e := 4) (by omega) (by omega) (by omega) (by omega))) (ea_cons e_int (ea_cons e_int ea_nil)))) (fun ss hss => ⟨(digitsM (cellM script 0) (towerSizesM 40 4), 40, 4), hss.symm, ⟨(show (2 ≤ (40:Int) ∧ (40:Int) ≤ 40) ∧ 4 ≤ (4:Int) ∧ (4:Int) ≤ 20 from by decide), digits_tower _ (by omega) (by omega) (by omega) (by omega)⟩, fun y hy => hy⟩)) (fun y hy => b_nil ⟨y, hy, rfl⟩) sc_law_drawn.nd)
  rintro _ ⟨ks, hg, rfl⟩
  have hck : (cut row (some 23) none).length = 22 := by rw [cut_from _ (by decide), List.length_drop, hrl]; rfl
  refine b_cons (s_setX 2 (ex_call (PR := fun y => Good y 40 20) C_law_broad (hr.mono (by decide)) (eax_cons (ex_call (PR := fun y => Good y 40 20) C_law_knit (hr.mono (by decide)) (EA.toX (ea_cons (e_var 2) (ea_cons (EL.toE (el_slice (e_var 1) (eo_some e_int) eo_none)) ea_nil))) (fun ss hss => ⟨(ks, cut row (some 4) none), hss.symm, ⟨hg, hkr⟩, fun y hy => hy⟩)) (EA.toX (ea_cons (EL.toE (el_slice (e_var 1) (eo_some e_int) eo_none)) (ea_cons e_int ea_nil)))) (fun ss hss => by
    obtain ⟨y, r, hy, rfl, rfl⟩ := hss
    exact ⟨(y, cut row (some 23) none, 20), rfl, ⟨hy, by dsimp only; omega, by dsimp only; omega⟩, fun z hz => hz⟩)) (fun ks2 hg1 => ?_) sc_law_drawn.nd)
  have hpos1 := hg1.pos
  refine b_cut (fun G' => ∃ kinds, Good kinds 40 20 ∧ G' = [.vl (tSq tI) script, .vl (tLst tI) row, .vl (tTup (tTup tI)) kinds, .un]) (s_if (t_cv (e_ixL (e_var 1) e_int (atI_ix (by omega) (by omega))) e_int cv_eqI) (fun h => ?_) (fun h => b_nil ⟨ks2, hg1, rfl⟩)) ?_
  · exact b_cons (s_setX 2 (ex_call (PR := fun y => Good y 40 20) C_law_twin (hr.mono (by decide)) (EA.toX (ea_cons (e_var 2) (ea_cons (e_mod (e_intI b.int (e_ixL (e_var 1) e_int (atI_ix (by omega) (by omega)))) (e_lenT b.len (e_var 2)) (by omega)) (ea_cons (e_ixL (e_var 1) e_int (atI_ix (by omega) (by omega))) ea_nil)))) (fun ss hss => ⟨(ks2, ix row 2 % (ks2.length : Int), ix row 3), hss.symm, ⟨hg1, Int.emod_nonneg _ (by omega), Int.emod_lt_of_pos _ (by omega)⟩, fun y hy => hy⟩)) (fun y hy => b_nil ⟨y, hy, rfl⟩) sc_law_drawn.nd)
  rintro _ ⟨kinds, hg2, rfl⟩
  have hpos := hg2.pos
  have hlen := hg2.len
  have hdl : (digitsM (cellM script 2) downSizes).length = 40 := by rw [digits_len]; decide
  refine b_cons (s_retX (ex_call (PR := fun y => Good y 40 20) C_law_renumbered (hr.mono (by decide)) (eax_cons (TL.E.toX (P := fun y => y = kinds) (e_var 2) rfl) (eax_cons (ex_call (PR := fun y => (y.length : Int) = kinds.length ∧ inR kinds.length y) C_law_order (hr.mono (by decide)) (EA.toX (ea_cons (e_call C_law_digits (hr.mono (by decide)) (cellM script 2, downSizes) (ea_cons (e_call C_law_cell (hr.mono (by decide)) (script, 2) (ea_cons (e_var 0) (ea_cons e_int ea_nil)) (cell 2 (by omega) (by omega))) (ea_cons (EL.toE (el_lc (lc_R (f := fun k : Nat => 40 - (k : Int)) (own := [("k", 3)]) b.range e_int (by decide) 3 (fun s0 H C cl fp m hm => e_sub e_int (e_var 3)) (blkOk_by (N := ["script", "row", "kinds", "k"]) (sc := defScope s_law_drawn) (by decide +kernel)) (fun _ _ _ _ _ => pg_name sc_law_drawn.nd rfl (by first | exact Or.inl rfl | exact Or.inr rfl))) rfl sc_law_drawn.nd)) ea_nil)) (show downSizes.length ≤ 3000 ∧ ∀ s ∈ downSizes, 0 < s ∧ s < 1073741824 from by decide)) (ea_cons (e_lenT b.len (e_var 2)) ea_nil))) (fun ss hss => ⟨(digitsM (cellM script 2) downSizes, (kinds.length : Int)), hss.symm, ⟨by dsimp only; omega, by dsimp only; omega⟩, fun y hy => hy⟩)) eax_nil)) (fun ss hss => by
    obtain ⟨_, _, rfl, ⟨order, _, ho, rfl, rfl⟩, rfl⟩ := hss
    exact ⟨(_, order), rfl, ⟨hg2.mono (by omega) (by omega), by have := ho.1; dsimp only; omega, ho.2⟩, fun y hy => hy.2 40 20 (by omega) hg2⟩)) (fun y hy M v r => ⟨y, hy, r⟩))
end

/-! ways in a book of kinds -/
inductive Pth (E : Nat → Nat → Prop) (m : Nat) : Nat → Nat → Prop
  | one {a b : Nat} : E a b → Pth E m a b
  | step {a c b : Nat} : E a c → c < m → Pth E m c b → Pth E m a b
theorem Pth.zero {E : Nat → Nat → Prop} {a b : Nat} : Pth E 0 a b ↔ E a b := ⟨fun h => by
  cases h with
  | one h => exact h
  | step _ h _ => exact absurd h (Nat.not_lt_zero _), .one⟩
theorem Pth.mono {E : Nat → Nat → Prop} {m n : Nat} (h : m ≤ n) {a b : Nat} (p : Pth E m a b) : Pth E n a b := by
  induction p with
  | one e => exact .one e
  | step e l _ ih => exact .step e (Nat.lt_of_lt_of_le l h) ih
theorem Pth.trans {E : Nat → Nat → Prop} {m : Nat} {a c b : Nat} (p : Pth E m a c) (hc : c < m) (q : Pth E m c b) : Pth E m a b := by
  induction p with
  | one e => exact .step e hc q
  | step e l _ ih => exact .step e l (ih hc q)
theorem Pth.succ {E : Nat → Nat → Prop} {m a b : Nat} : Pth E (m + 1) a b ↔ Pth E m a b ∨ (Pth E m a m ∧ Pth E m m b) := by
  constructor
  · intro p
    induction p with
    | one e => exact .inl (.one e)
    | @step a c b e l _ ih =>
      by_cases h : c < m
      · rcases ih with q | ⟨q, r⟩
        · exact .inl (.step e h q)
        · exact .inr ⟨.step e h q, r⟩
      · have : c = m := by omega
        subst this
        rcases ih with q | ⟨q, r⟩
        · exact .inr ⟨.one e, q⟩
        · exact .inr ⟨.one e, r⟩
  · rintro (p | ⟨p, q⟩)
    · exact p.mono (Nat.le_succ _)
    · exact (p.mono (Nat.le_succ _)).trans (Nat.lt_succ_self _) (q.mono (Nat.le_succ _))
theorem Pth.self {E : Nat → Nat → Prop} {m b : Nat} : Pth E (m + 1) m b ↔ Pth E m m b := by
  rw [Pth.succ]
  exact ⟨fun h => h.elim id And.right, .inl⟩
def edge (kinds : List (List Int)) (a b : Nat) : Prop := (b : Int) ∈ ix kinds (a : Int)
open Classical in
noncomputable def rowP (kinds : List (List Int)) (m a : Nat) : List Bool := (List.range kinds.length).map fun b => decide (Pth (edge kinds) m a b)
noncomputable def tabP (kinds : List (List Int)) (m : Nat) : List (List Bool) := (List.range kinds.length).map (rowP kinds m)
/-- kind b is reached from kind a -/
def Rch (kinds : List (List Int)) (a b : Nat) : Prop := Pth (edge kinds) kinds.length a b
noncomputable def reachTab (kinds : List (List Int)) : List (List Bool) := tabP kinds kinds.length
theorem ix_range {α : Type} [Inhabited α] {n : Nat} {f : Nat → α} {i : Nat} (h : i < n) : ix ((List.range n).map f) (i : Int) = f i := by
  apply ix_getElem (by omega)
  rw [Int.toNat_natCast, List.getElem?_map, List.getElem?_range h]; rfl
theorem set_range {α : Type} {n : Nat} {f g : Nat → α} {k : Nat} (hk : k < n) (h : ∀ i, i < n → i ≠ k → g i = f i) : ((List.range n).map f).set k (g k) = (List.range n).map g := by
  apply List.ext_getElem?
  intro i
  by_cases hi : i < n
  · by_cases z : k = i
    · subst z
      rw [List.getElem?_set_self (by simpa using hk), List.getElem?_map, List.getElem?_range hk]; rfl
    · rw [List.getElem?_set_ne z, List.getElem?_map, List.getElem?_map, List.getElem?_range hi]
      show some (f i) = some (g i)
      rw [h i hi (Ne.symm z)]
  · rw [List.getElem?_eq_none (by simp; omega), List.getElem?_eq_none (by simp; omega)]
open Classical in
theorem rowP_len (kinds : List (List Int)) (m a : Nat) : (rowP kinds m a).length = kinds.length := by unfold rowP; simp

def cntF : List Bool → Nat
  | [] => 0
  | b :: bs => (if b = true then 0 else 1) + cntF bs
theorem cntF_set : ∀ {bs : List Bool} {i : Nat}, bs[i]? = some false → cntF (bs.set i true) + 1 = cntF bs
  | [], i, h => by simp at h
  | b :: bs, 0, h => by
    simp at h
    subst h
    show (if true = true then 0 else 1) + cntF bs + 1 = (if false = true then 0 else 1) + cntF bs
    simp; omega
  | b :: bs, i + 1, h => by
    have := cntF_set (bs := bs) (i := i) (by simpa using h)
    show (if b = true then 0 else 1) + cntF (bs.set i true) + 1 = (if b = true then 0 else 1) + cntF bs
    omega
theorem cntF_rep : ∀ n : Nat, cntF (List.replicate n false) = n
  | 0 => rfl
  | n + 1 => by
    rw [List.replicate_succ]
    show (if false = true then 0 else 1) + cntF (List.replicate n false) = n + 1
    rw [cntF_rep n]; simp; omega
theorem ix_rep {n j : Nat} (h : j < n) : ix (List.replicate n false) (j : Int) = false := by
  apply ix_getElem (by omega)
  rw [Int.toNat_natCast, List.getElem?_replicate, if_pos h]
theorem bools_ext {xs ys : List Bool} (h : xs.length = ys.length) (e : ∀ i : Nat, i < xs.length → ix xs (i : Int) = ix ys (i : Int)) : xs = ys := by
  apply List.ext_getElem?
  intro i
  by_cases hi : i < xs.length
  · have a := ixSome (xs := xs) (i := (i : Int)) (by omega) (by omega)
    have b := ixSome (xs := ys) (i := (i : Int)) (by omega) (by omega)
    rw [Int.toNat_natCast] at a b
    rw [a, b, e i hi]
  · rw [List.getElem?_eq_none (by omega), List.getElem?_eq_none (by omega)]
theorem ix_setB {xs : List Bool} {i j : Nat} {c : Bool} (hi : i < xs.length) (hj : j < xs.length) : ix (xs.set i c) (j : Int) = if i = j then c else ix xs (j : Int) := by
  apply ix_getElem (by omega)
  rw [Int.toNat_natCast, List.getElem?_set]
  split
  · first | rfl | (rw [if_pos hi])
  · have a := ixSome (xs := xs) (i := (j : Int)) (by omega) (by omega)
    rw [Int.toNat_natCast] at a
    exact a
/-- flags and those still waiting, `here` being looked at, its first targets ts done -/
structure Flg (kinds : List (List Int)) (k : Nat) (fl : List Bool) (wt : List Int) (done : Nat → Prop) (ts : List Int) : Prop where
  len : fl.length = kinds.length
  rch : ∀ j : Nat, j < kinds.length → ix fl (j : Int) = true → Rch kinds k j
  wts : ∀ x ∈ wt, ∃ j : Nat, x = (j : Int) ∧ j < kinds.length ∧ (j = k ∨ ix fl (j : Int) = true)
  cls : ∀ a b : Nat, a < kinds.length → b < kinds.length → (a = k ∨ ix fl (a : Int) = true) → (a : Int) ∉ wt → done a → edge kinds a b → ix fl (b : Int) = true
  tgt : ∀ t ∈ ts, 0 ≤ t → ix fl t = true
theorem edge_lt {kinds : List (List Int)} {n e : Int} (hg : Good kinds n e) {a b : Nat} (ha : a < kinds.length) (h : edge kinds a b) : b < kinds.length := by
  have := (hg.row _ (ix_mem (xs := kinds) (i := (a : Int)) (by omega) (by omega))).2 _ h
  omega
theorem Flg.fin {kinds : List (List Int)} {n e : Int} {k : Nat} {fl : List Bool} (hg : Good kinds n e) (hk : k < kinds.length) (h : Flg kinds k fl [] (fun _ => True) []) : fl = rowP kinds kinds.length k := by
  classical
  have key : ∀ {a b : Nat}, Pth (edge kinds) kinds.length a b → a < kinds.length → (a = k ∨ ix fl (a : Int) = true) → ix fl (b : Int) = true := by
    intro a b p
    induction p with
    | one e1 => intro ha hf; exact h.cls _ _ ha (edge_lt hg ha e1) hf (by simp) trivial e1
    | step e1 l _ ih => intro ha hf; exact ih l (.inr (h.cls _ _ ha l hf (by simp) trivial e1))
  refine bools_ext (by rw [h.len, rowP_len]) fun i hi => ?_
  rw [h.len] at hi
  have e2 : ix (rowP kinds kinds.length k) (i : Int) = decide (Pth (edge kinds) kinds.length k i) := by unfold rowP; rw [ix_range hi]
  rw [e2]
  by_cases q : ix fl (i : Int) = true
  · rw [q]; exact (decide_eq_true (h.rch i hi q)).symm
  · have : ¬ Pth (edge kinds) kinds.length k i := fun p => q (key p hk (.inl rfl))
    rw [decide_eq_false this]; simpa using q
noncomputable def spreach_flags (K : Fg) : Sp := spG K (fun i : List (List Int) × Int => [.vl (tTup (tTup tI)) i.1, .vl tI i.2]) (fun i => Good i.1 1000 1000 ∧ 0 ≤ i.2 ∧ i.2 < i.1.length) (tLst tB) (fun i => rowP i.1 i.1.length i.2.toNat)
section
variable {P : Program} {w : World} {K : Fg} {mg : Str → Option Value} {base : Heap}
theorem sc_reach_flags : FnScope ["kinds", "kind", "flags", "waiting", "here", "target"] ["kinds", "kind"] (defScope sreach_flags) := ⟨rfl, rfl, rfl, by decide +kernel, rfl, by decide +kernel, by decide +kernel⟩
theorem okreach_flags {f : Addr} {fd : FuncData} (F : Fun K "reach_flags" "reach_flags" sreach_flags f fd) (b : Bi mg) : FnOk P w K mg base CX0 1 f fd ["kinds", "kind"] (spreach_flags K) := by
  refine fn_ok F sc_reach_flags 4 rfl (fun _ => rfl) (fun cdv A outer s H E hr ⟨kinds, kind⟩ hp => ?_)
  dsimp only at hp ⊢
  obtain ⟨hg, k0, k1⟩ := hp
  have hlen := hg.len
  obtain ⟨k, rfl⟩ : ∃ k : Nat, kind = (k : Int) := ⟨kind.toNat, by omega⟩
  have hk : k < kinds.length := by omega
  rw [Int.toNat_natCast]
  refine b_cons (s_own 2 (el_rep (EL.toE (el_lst (eh_cons e_bl eh_nil))) (e_lenT b.len (e_var 0)) (by omega) (by simp only [List.length_cons, List.length_nil]; omega)) ?_ sc_reach_flags.nd)
  have fr : ∀ n : Nat, (List.replicate n [false]).flatten = List.replicate n false := fun n => by
    induction n with
    | zero => rfl
    | succ n ih => rw [List.replicate_succ, List.flatten_cons, ih]; rfl
  rw [fr, Int.toNat_natCast]
  refine b_cons (s_own 3 (el_lst (eh_cons (e_var 1) eh_nil)) ?_ sc_reach_flags.nd)
  refine b_cons (s_while (fun m G' => ∃ fl wt, (Flg kinds k fl wt (fun _ => True) [] ∧ m = 2 * cntF fl + wt.length ∧ m ≤ 2 * kinds.length + 1) ∧ G' = [.vl (tTup (tTup tI)) kinds, .vl tI (k : Int), .ow tB fl, .ow tI wt, .un, .un]) _ _ (Sub.refl _) ⟨List.replicate kinds.length false, [(k : Int)], ⟨⟨List.length_replicate, fun j hj h => ?_, fun x hx => ⟨k, List.mem_singleton.mp hx, hk, .inl rfl⟩, fun a c ha hc h hn _ e1 => ?_, fun t ht => by cases ht⟩, rfl, by rw [cntF_rep]; simp⟩, rfl⟩ ?_)
  · rw [ix_rep hj] at h; cases h
  · rcases h with z | z
    · exact absurd (by rw [z]; simp) hn
    · rw [ix_rep ha] at z; cases z
  · rintro m _ ⟨fl, wt, ⟨hF, hm, hmb⟩, rfl⟩
    refine ⟨_, t_read 3 rfl (t_lst (e_var 3)), fun h => ?_, fun h => ?_⟩
    · rcases List.eq_nil_or_concat wt with z | ⟨ws, x, z⟩
      · subst z; cases h
      rw [List.concat_eq_append] at z
      subst z
      obtain ⟨here, rfl, hh, hhf⟩ := hF.wts x (by simp)
      have hrow := hg.row _ (ix_mem (xs := kinds) (i := (here : Int)) (by omega) (by omega))
      rw [List.length_append, List.length_singleton] at hm
      refine b_cons (s_pop 4 3 (by decide) rfl ?_ sc_reach_flags.nd)
      refine b_cons (s_forT 5 (fun j G' => ∃ fl' wt', (Flg kinds k fl' wt' (fun a => a ≠ here) ((ix kinds (here : Int)).take j) ∧ 2 * cntF fl' + wt'.length ≤ 2 * cntF fl + ws.length ∧ (here = k ∨ ix fl' (here : Int) = true)) ∧ G' = [.vl (tTup (tTup tI)) kinds, .vl tI (k : Int), .ow tB fl', .ow tI wt', .vl tI (here : Int), .un]) _ (e_ixT (e_var 0) (e_var 4) (atI_ix (by omega) (by omega))) (Sub.refl _) ⟨fl, ws, ⟨⟨hF.len, hF.rch, fun x hx => hF.wts x (List.mem_append_left _ hx), fun a c ha hc h1 h2 h3 e1 => hF.cls a c ha hc h1 (fun z => ?_) trivial e1, fun t ht => by simp at ht⟩, Nat.le_refl _, hhf⟩, rfl⟩ ?_ ?_ sc_reach_flags.nd rfl)
      · rcases List.mem_append.mp z with y | y
        · exact h2 y
        · exact h3 (by have := List.mem_singleton.mp y; omega)
      · rintro j t _ ht ⟨fl', wt', ⟨hF', hms, hhf'⟩, rfl⟩
        rw [take_snoc ht]
        have htm := List.mem_of_getElem? ht
        have htr := hrow.2 t htm
        have hl' := hF'.len
        refine b_cut (fun G' => ∃ fl' wt' a, (Flg kinds k fl' wt' (fun a => a ≠ here) ((ix kinds (here : Int)).take j ++ [t]) ∧ 2 * cntF fl' + wt'.length ≤ 2 * cntF fl + ws.length ∧ (here = k ∨ ix fl' (here : Int) = true)) ∧ G' = [.vl (tTup (tTup tI)) kinds, .vl tI (k : Int), .ow tB fl', .ow tI wt', .vl tI (here : Int), a]) (s_if (t_read 2 rfl (TW.toT (w_and (t_cv (e_var 5) e_int cv_ge) (fun h => w_and1 (t_not (t_val (e_ixL (e_var 2) (e_var 5) (atI_ix (by have := of_decide_eq_true h; omega) (by omega))))))))) (fun h => ?_) (fun h => ?_)) ?_
        · obtain ⟨q1, q2⟩ := (Bool.and_eq_true _ _).mp h
          have q1 := of_decide_eq_true q1
          have q2 : ix fl' t = false := by simpa using q2
          obtain ⟨u, rfl⟩ : ∃ u : Nat, t = (u : Int) := ⟨t.toNat, by omega⟩
          have hu : u < kinds.length := by omega
          have hus : fl'[u]? = some false := by
            have := ixSome (xs := fl') (i := (u : Int)) (by omega) (by omega)
            rw [Int.toNat_natCast, q2] at this; exact this
          have hc := cntF_set hus
          have hed : edge kinds here u := htm
          refine b_cons (s_seti 2 (m := u) rfl e_bl (e_var 5) (by rw [ixNp (by omega) (by omega), Int.toNat_natCast]) ?_)
          refine b_cons (s_app 3 rfl (e_var 5) (by omega) ?_)
          have hs : ∀ i : Nat, i < kinds.length → ix (fl'.set u true) (i : Int) = if u = i then true else ix fl' (i : Int) := fun i hi => ix_setB (by omega) (by omega)
          have keep : ∀ i : Nat, i < kinds.length → ix fl' (i : Int) = true → ix (fl'.set u true) (i : Int) = true := fun i hi q => by
            rw [hs i hi]; split
            · rfl
            · exact q
          have new : ix (fl'.set u true) (u : Int) = true := by rw [hs u hu, if_pos rfl]
          refine b_nil ⟨_, _, _, ⟨⟨by rw [List.length_set]; exact hl', fun i hi q => ?_, fun x hx => ?_, fun a c ha hc' h1 h2 h3 e1 => ?_, fun t' ht' h0 => ?_⟩, by rw [List.length_append, List.length_singleton]; omega, hhf'.imp id (keep here hh)⟩, rfl⟩
          · rw [hs i hi] at q
            by_cases z : u = i
            · subst z
              rcases hhf' with y | y
              · subst y; exact .one hed
              · exact (hF'.rch here hh y).trans hh (.one hed)
            · rw [if_neg z] at q; exact hF'.rch i hi q
          · rcases List.mem_append.mp hx with y | y
            · obtain ⟨i, e1, e2, e3⟩ := hF'.wts x y
              exact ⟨i, e1, e2, e3.imp id (keep i e2)⟩
            · exact ⟨u, List.mem_singleton.mp y, hu, .inr new⟩
          · have hau : ¬ u = a := fun z => h2 (List.mem_append_right _ (by rw [z]; simp))
            refine keep c hc' (hF'.cls a c ha hc' (h1.imp id fun y => ?_) (fun z => h2 (List.mem_append_left _ z)) h3 e1)
            rw [hs a ha, if_neg hau] at y; exact y
          · rcases List.mem_append.mp ht' with y | y
            · have hy := (hrow.2 t' (List.mem_of_mem_take y)).2
              have := keep t'.toNat (by omega) (by rw [show ((t'.toNat : Nat) : Int) = t' by omega]; exact hF'.tgt t' y h0)
              rw [show ((t'.toNat : Nat) : Int) = t' by omega] at this; exact this
            · rw [List.mem_singleton.mp y]; exact new
        · refine b_nil ⟨fl', wt', _, ⟨⟨hl', hF'.rch, hF'.wts, hF'.cls, fun t' ht' h0 => ?_⟩, hms, hhf'⟩, rfl⟩
          rcases List.mem_append.mp ht' with y | y
          · exact hF'.tgt t' y h0
          · have e1 := List.mem_singleton.mp y
            subst e1
            cases q : ix fl' t' with
            | true => rfl
            | false => rw [q, decide_eq_true h0] at h; cases h
        rintro _ ⟨fl', wt', a, q, rfl⟩
        exact B.weak (b_nil ⟨fl', wt', q, rfl⟩) (.same (.same (.same (.same (.same (.un .nil))))))
      · rintro _ ⟨fl', wt', ⟨hF', hms, hhf'⟩, rfl⟩
        rw [List.take_length] at hF'
        refine B.weak (b_nil ⟨2 * cntF fl' + wt'.length, by omega, fl', wt', ⟨⟨hF'.len, hF'.rch, hF'.wts, fun a c ha hc h1 h2 _ e1 => ?_, fun t ht => by cases ht⟩, rfl, by omega⟩, rfl⟩) (.same (.same (.same (.same (.un (.un .nil))))))
        by_cases z : a = here
        · subst z; exact hF'.tgt (c : Int) e1 (by omega)
        · exact hF'.cls a c ha hc h1 h2 z e1
    · have hw : wt = [] := by cases wt with | nil => rfl | cons x xs => cases h
      subst hw
      refine b_freeze 2 rfl ?_
      exact b_cons (s_ret (e_var 2) (fun M v r => ret_is r (hF.fin hg hk).symm))
end

theorem tab_row {kinds : List (List Int)} {k : Int} (h0 : 0 ≤ k) (h1 : k < kinds.length) : ix (reachTab kinds) k = rowP kinds kinds.length k.toNat := by
  obtain ⟨k, rfl⟩ : ∃ j : Nat, k = (j : Int) := ⟨k.toNat, by omega⟩
  unfold reachTab tabP
  rw [ix_range (by omega), Int.toNat_natCast]
noncomputable def reachedM (kinds : List (List Int)) (kind : Int) : List Int := ((List.range kinds.length).filter fun o : Nat => ix (ix (reachTab kinds) kind) (o : Int)).map fun o : Nat => (o : Int)
noncomputable def spreached_from (K : Fg) : Sp := spG K (fun i : List (List Int) × Int => [.vl (tTup (tTup tI)) i.1, .vl tI i.2]) (fun i => Good i.1 1000 1000 ∧ 0 ≤ i.2 ∧ i.2 < i.1.length) (tTup tI) (fun i => reachedM i.1 i.2)
theorem mem_reached {kinds : List (List Int)} {k x : Int} : x ∈ reachedM kinds k ↔ (0 ≤ x ∧ x < kinds.length) ∧ ix (ix (reachTab kinds) k) x = true := by
  unfold reachedM
  constructor
  · intro h
    obtain ⟨o, ho, rfl⟩ := List.mem_map.mp h
    obtain ⟨h1, h2⟩ := List.mem_filter.mp ho
    have := List.mem_range.mp h1
    exact ⟨by omega, h2⟩
  · rintro ⟨h1, h2⟩
    exact List.mem_map.mpr ⟨x.toNat, List.mem_filter.mpr ⟨List.mem_range.mpr (by omega), by rw [show ((x.toNat : Nat) : Int) = x by omega]; exact h2⟩, by omega⟩
theorem reached_len (kinds : List (List Int)) (k : Int) : (reachedM kinds k).length ≤ kinds.length := by
  unfold reachedM
  rw [List.length_map]
  have := List.length_filter_le (fun o : Nat => ix (ix (reachTab kinds) k) (o : Int)) (List.range kinds.length)
  rw [List.length_range] at this; exact this
section
variable {P : Program} {w : World} {K : Fg} {mg : Str → Option Value} {base : Heap}
theorem sc_reached_from : FnScope ["kinds", "kind", "flags", "other"] ["kinds", "kind"] (defScope sreached_from) := ⟨rfl, rfl, rfl, by decide +kernel, rfl, by decide +kernel, by decide +kernel⟩
theorem okreached_from {f : Addr} {fd : FuncData} (F : Fun K "reached_from" "reached_from" sreached_from f fd) (b : Bi mg) (Creach_flags : Fn P w K mg base CX0 1 "reach_flags" ["kinds", "kind"] (spreach_flags K)) : FnOk P w K mg base CX0 2 f fd ["kinds", "kind"] (spreached_from K) := by
  refine fn_ok F sc_reached_from 2 rfl (fun _ => rfl) (fun cdv A outer s H E hr ⟨kinds, kind⟩ hp => ?_)
  dsimp only at hp ⊢
  have hlen := hp.1.len
  have hrl := rowP_len kinds kinds.length kind.toNat
  refine b_cons (s_set 2 (e_call Creach_flags (hr.mono (by decide)) (kinds, kind) (ea_cons (e_var 0) (ea_cons (e_var 1) ea_nil)) hp) ?_ sc_reached_from.nd)
  dsimp only
  refine b_cons (s_ret (e_tupL b.tuple (EL.toE (el_lc (lc_RF (f := fun o : Nat => (o : Int)) (g := fun o : Nat => ix (rowP kinds kinds.length kind.toNat) (o : Int)) (own := [("other", 3)]) b.range (e_lenT b.len (e_var 0)) (by omega) 3 (fun s0 H C cl fp m hx => (t_val (e_ixL (e_var 2) (e_var 3) (atI_ix (by omega) (by omega))))) (fun s0 H C cl fp m hx hd => (e_var 3)) (blkOk_by (N := ["kinds", "kind", "flags", "other"]) (sc := defScope sreached_from) (by decide +kernel)) (fun _ _ _ _ _ => pg_name sc_reached_from.nd rfl (by first | exact Or.inl rfl | exact Or.inr rfl))) rfl sc_reached_from.nd))) (fun M v r => ret_is r ?_))
  unfold reachedM
  rw [tab_row hp.2.1 hp.2.2, Int.toNat_natCast]
end

def bookFs (ks : List (List Int)) : List (Str × Cl) := [("kinds", ⟨tTup (tTup tI), ks⟩)]
abbrev tBook (C : Addr) : Ty (List (List Int)) := tOb C bookFs
theorem e_kinds {X : Cx} {G : List Sl} {a : Expr} {pos : Pos} {C : Addr} {ks : List (List Int)} (he : E X G a (tBook C) ks) (hC : Cls X.K C) (hna : NoAttr X.K C "kinds") (hb : attributeBase a "kinds" X.env (eval a X.env) = eval a X.env := by rfl) : E X G (.Attribute a "kinds" pos) (tTup (tTup tI)) ks :=
  e_fld (cl := ⟨tTup (tTup tI), ks⟩) he hC hna rfl hb

noncomputable def spreaches (K : Fg) (C : Addr) : Sp := spG K (fun i : List (List Int) × Int × Int => [.vl (tBook C) i.1, .vl tI i.2.1, .vl tI i.2.2]) (fun i => Good i.1 1000 1000 ∧ (0 ≤ i.2.1 ∧ i.2.1 < i.1.length) ∧ 0 ≤ i.2.2 ∧ i.2.2 < i.1.length) tB (fun i => ix (ix (reachTab i.1) i.2.1) i.2.2)
section
variable {P : Program} {w : World} {K : Fg} {mg : Str → Option Value} {base : Heap}
theorem sc_reaches : FnScope ["book", "kind", "other"] ["book", "kind", "other"] (defScope sreaches) := ⟨rfl, rfl, rfl, by decide +kernel, rfl, by decide +kernel, by decide +kernel⟩
theorem okreaches {C : Addr} (hC : Cls K C) (hna : NoAttr K C "kinds") {f : Addr} {fd : FuncData} (F : Fun K "reaches" "reaches" sreaches f fd) (b : Bi mg) (Creached_from : Fn P w K mg base CX0 2 "reached_from" ["kinds", "kind"] (spreached_from K)) : FnOk P w K mg base CX0 3 f fd ["book", "kind", "other"] (spreaches K C) := by
  refine fn_ok F sc_reaches 0 rfl (fun _ => rfl) (fun cdv A outer s H E hr ⟨book, kind, other⟩ hp => ?_)
  dsimp only at hp ⊢
  obtain ⟨hg, hk, o0, o1⟩ := hp
  refine b_cons (s_ret (e_cv (e_var 2) (e_call Creached_from (hr.mono (by decide)) (book, kind) (ea_cons (e_kinds (e_var 0) hC hna) (ea_cons (e_var 1) ea_nil)) ⟨hg, hk⟩) cv_inT) (fun M v r => ret_is r ?_))
  dsimp only
  cases q : ix (ix (reachTab book) kind) other with
  | true => exact (decide_eq_true (mem_reached.mpr ⟨⟨o0, o1⟩, q⟩)).symm
  | false => exact (decide_eq_false (fun z => by have := (mem_reached.mp z).2; rw [q] at this; cases this)).symm
end

def sp_law_flag (K : Fg) : Sp := spG K (fun i : Bool × Bool => [.vl tB i.1, .vl tB i.2]) (fun i => i.1 = i.2) tB (fun i => true)
section
variable {P : Program} {w : World} {K : Fg} {mg : Str → Option Value} {base : Heap}
theorem sc_law_flag : FnScope ["told", "due"] ["told", "due"] (defScope s_law_flag) := ⟨rfl, rfl, rfl, by decide +kernel, rfl, by decide +kernel, by decide +kernel⟩
theorem ok_law_flag {f : Addr} {fd : FuncData} (F : Fun K "_law_flag" "_law_flag" s_law_flag f fd) (b : Bi mg) : FnOk P w K mg base CX0 1 f fd ["told", "due"] (sp_law_flag K) := by
  refine fn_ok F sc_law_flag 0 rfl (fun _ => rfl) (fun cdv A outer s H E hr ⟨told, due⟩ hp => ?_)
  dsimp only at hp ⊢
  subst hp
  refine b_cons (s_if (t_val (e_var 1)) (fun h => ?_) (fun h => b_nil ?_))
  · exact b_cons (s_ret (e_cv (e_var 0) e_bl cv_isB) (fun M v r => ret_is r (by rw [h]; rfl)))
  · exact b_cons (s_ret (e_cv (e_var 0) e_bl cv_isB) (fun M v r => ret_is r (by rw [h]; rfl)))
end

def PrsIn (many : Int) (ps : List (Int × Int)) : Prop := ∀ p ∈ ps, (0 ≤ p.1 ∧ p.1 < many) ∧ 0 ≤ p.2 ∧ p.2 < many
def sp_law_pairs (K : Fg) : Sp := spE K (fun i : Int × List Int => [.vl tI i.1, .vl (tLst tI) i.2]) (fun i => (1 ≤ i.1 ∧ i.1 ≤ 1000) ∧ i.2.length = 48) (tLst (tP2 tI tI)) (fun i y => PrsIn i.1 y ∧ y.length ≤ 64)
section
variable {P : Program} {w : World} {K : Fg} {mg : Str → Option Value} {base : Heap}
theorem sc_law_pairs : FnScope ["many", "row", "pairs", "k", "j"] ["many", "row"] (defScope s_law_pairs) := ⟨rfl, rfl, rfl, by decide +kernel, rfl, by decide +kernel, by decide +kernel⟩
theorem ok_law_pairs {f : Addr} {fd : FuncData} (F : Fun K "_law_pairs" "_law_pairs" s_law_pairs f fd) (b : Bi mg) : FnOk P w K mg base CX0 1 f fd ["many", "row"] (sp_law_pairs K) := by
  refine fn_okE F sc_law_pairs 3 rfl (fun _ => rfl) (fun cdv A outer s H E hr ⟨many, row⟩ hp => ?_)
  dsimp only at hp ⊢
  obtain ⟨⟨m0, m1⟩, hrl⟩ := hp
  have md : ∀ x : Int, 0 ≤ x % many ∧ x % many < many := fun x => ⟨Int.emod_nonneg x (by omega), Int.emod_lt_of_pos x (by omega)⟩
  refine b_cons (s_own 2 (el_lst (s := tP2 tI tI) eh_nil) ?_ sc_law_pairs.nd)
  refine b_cons (s_if (t_cv (e_var 0) e_int cv_gt) (fun h => ?_) (fun h => b_nil ?_))
  · refine b_cons (s_forR 3 (fun m G' => ∃ ps, (PrsIn many ps ∧ ps.length = m) ∧ G' = [.vl tI many, .vl (tLst tI) row, .ow (tP2 tI tI) ps, .un, .un]) _ b.range e_int (by omega) (Sub.refl _) ⟨[], ⟨fun p hp => (by cases hp), rfl⟩, rfl⟩ ?_ ?_ sc_law_pairs.nd rfl)
    · rintro m _ hm ⟨ps, ⟨hin, hl⟩, rfl⟩
      refine b_cons (s_app 2 rfl (e_p2 (e_mod (e_intI b.int (e_ixL (e_var 1) (e_var 3) (atI_ix (by omega) (by omega)))) (e_var 0) (by omega)) (e_mod (e_intI b.int (e_ixL (e_var 1) (e_add e_int (e_var 3)) (atI_ix (by omega) (by omega)))) (e_var 0) (by omega))) (by omega) ?_)
      refine B.weak (b_nil ⟨_, ⟨fun p hp => ?_, by rw [List.length_append, List.length_singleton, hl]⟩, rfl⟩) (.same (.same (.same (.un (.un .nil)))))
      rcases List.mem_append.mp hp with y | y
      · exact hin p y
      · rw [List.mem_singleton.mp y]; exact ⟨md _, md _⟩
    · rintro _ ⟨ps, ⟨hin, hl⟩, rfl⟩
      refine b_freeze 2 rfl ?_
      exact b_cons (s_ret (e_var 2) (fun M v r => ⟨ps, ⟨hin, by omega⟩, r⟩))
  · have h := of_decide_eq_false h
    refine b_freeze 2 rfl ?_
    refine b_cons (s_forR 3 (fun m G' => ∃ ps, (PrsIn many ps ∧ ps.length = m * many.toNat) ∧ G' = [.vl tI many, .vl (tLst tI) row, .vl (tLst (tP2 tI tI)) ps, .un, .un]) _ b.range (e_var 0) (by omega) (Sub.refl _) ⟨[], ⟨fun p hp => (by cases hp), by simp⟩, rfl⟩ ?_ ?_ sc_law_pairs.nd rfl)
    · rintro m _ hm ⟨ps, ⟨hin, hl⟩, rfl⟩
      have hsz : m * many.toNat ≤ 8 * 8 := Nat.mul_le_mul (by omega) (by omega)
      refine b_cons (s_set 2 (EL.toE (el_cat (e_var 2) (EL.toE (el_lc (lc_R (f := fun j : Nat => ((m : Int), (j : Int))) (own := [("j", 4)]) b.range (e_var 0) (by omega) 4 (fun s0 H C cl fp j hj => e_p2 (e_var 3) (e_var 4)) (blkOk_by (N := ["many", "row", "pairs", "k", "j"]) (sc := defScope s_law_pairs) (by decide +kernel)) (fun _ _ _ _ _ => pg_name sc_law_pairs.nd rfl (by first | exact Or.inl rfl | exact Or.inr rfl))) rfl sc_law_pairs.nd)) (by rw [List.length_map, List.length_range]; omega))) ?_ sc_law_pairs.nd)
      refine B.weak (b_nil ⟨_, ⟨fun p hp => ?_, by rw [List.length_append, List.length_map, List.length_range, hl, Nat.add_mul, Nat.one_mul]⟩, rfl⟩) (.same (.same (.same (.un (.un .nil)))))
      rcases List.mem_append.mp hp with y | y
      · exact hin p y
      · obtain ⟨j, hj, rfl⟩ := List.mem_map.mp y
        have := List.mem_range.mp hj
        exact ⟨⟨by dsimp only; omega, hm⟩, by dsimp only; omega, by dsimp only; omega⟩
    · rintro _ ⟨ps, ⟨hin, hl⟩, rfl⟩
      have hsz : many.toNat * many.toNat ≤ 8 * 8 := Nat.mul_le_mul (by omega) (by omega)
      exact b_cons (s_ret (e_var 2) (fun M v r => ⟨ps, ⟨hin, by omega⟩, r⟩))
end

noncomputable def sp_law_reaches_so (K : Fg) (C : Addr) : Sp := spG K (fun i : List (List Int) × List (Int × Int) => [.vl (tBook C) i.1, .vl (tLst (tLst tB)) (reachTab i.1), .vl (tLst (tP2 tI tI)) i.2]) (fun i => Good i.1 1000 1000 ∧ PrsIn i.1.length i.2) tB (fun _ => true)
section
variable {P : Program} {w : World} {K : Fg} {mg : Str → Option Value} {base : Heap}
theorem sc_law_reaches_so : FnScope ["book", "reach", "pairs", "pair"] ["book", "reach", "pairs"] (defScope s_law_reaches_so) := ⟨rfl, rfl, rfl, by decide +kernel, rfl, by decide +kernel, by decide +kernel⟩
theorem ok_law_reaches_so {C : Addr} {f : Addr} {fd : FuncData} (F : Fun K "_law_reaches_so" "_law_reaches_so" s_law_reaches_so f fd) (b : Bi mg) (C_law_flag : Fn P w K mg base CX0 1 "_law_flag" ["told", "due"] (sp_law_flag K)) (Creaches : Fn P w K mg base CX0 3 "reaches" ["book", "kind", "other"] (spreaches K C)) : FnOk P w K mg base CX0 4 f fd ["book", "reach", "pairs"] (sp_law_reaches_so K C) := by
  refine fn_ok F sc_law_reaches_so 1 rfl (fun _ => rfl) (fun cdv A outer s H E hr ⟨kinds, pairs⟩ hp => ?_)
  dsimp only at hp ⊢
  obtain ⟨hg, hin⟩ := hp
  have htl : (reachTab kinds).length = kinds.length := by unfold reachTab tabP; simp
  refine b_cons (s_forL 3 (fun m G' => G' = [.vl (tBook C) kinds, .vl (tLst (tLst tB)) (reachTab kinds), .vl (tLst (tP2 tI tI)) pairs, .un]) _ (e_var 2) (Sub.refl _) rfl ?_ ?_ sc_law_reaches_so.nd rfl)
  · rintro m ⟨x, y⟩ _ hx rfl
    obtain ⟨⟨x0, x1⟩, y0, y1⟩ := hin _ (List.mem_of_getElem? hx)
    dsimp only at x0 x1 y0 y1
    have hrow : (ix (reachTab kinds) x).length = kinds.length := by rw [tab_row x0 x1, rowP_len]
    refine b_cons (s_if (t_not (t_val (e_call C_law_flag (hr.mono (by decide)) (ix (ix (reachTab kinds) x) y, ix (ix (reachTab kinds) x) y) (ea_cons (e_call Creaches (hr.mono (by decide)) (kinds, x, y) (ea_cons (e_var 0) (ea_cons (TL.E.is (x' := x) (e_2a (e_var 3) e_int) rfl) (ea_cons (TL.E.is (x' := y) (e_2b (e_var 3) e_int) rfl) ea_nil))) ⟨hg, ⟨x0, x1⟩, y0, y1⟩) (ea_cons (e_ixL (e_ixL (e_var 1) (TL.E.is (x' := x) (e_2a (e_var 3) e_int) rfl) (atI_ix (by omega) (by omega))) (TL.E.is (x' := y) (e_2b (e_var 3) e_int) rfl) (atI_ix (by omega) (by omega))) ea_nil)) rfl))) (fun h => ?_) (fun h => ?_))
    · simp at h
    · exact b_nil (B.weak (b_nil rfl) (.same (.same (.same (.un .nil)))))
  · rintro _ rfl
    exact b_cons (s_ret e_bl (fun M v r => r))
end

/-! shortest ways back -/
def exit (kinds : List (List Int)) (a s b : Nat) : Prop := (ix kinds (a : Int))[s]? = some (b : Int)
inductive Wk (kinds : List (List Int)) (a : Nat) : List Int → Nat → Prop
  | nil : Wk kinds a [] a
  | snoc {w : List Int} {c s b : Nat} : Wk kinds a w c → exit kinds c s b → Wk kinds a (w ++ [(s : Int)]) b
theorem Wk.cons {kinds : List (List Int)} {a s c b : Nat} {w : List Int} (h : exit kinds a s c) (p : Wk kinds c w b) : Wk kinds a ((s : Int) :: w) b := by
  induction p with
  | nil => exact (Wk.nil).snoc h
  | snoc _ e ih => exact ih.snoc e
theorem Wk.split {kinds : List (List Int)} {a b : Nat} {w : List Int} (p : Wk kinds a w b) : (w = [] ∧ a = b) ∨ ∃ (s c : Nat) (w' : List Int), w = (s : Int) :: w' ∧ exit kinds a s c ∧ Wk kinds c w' b := by
  induction p with
  | nil => exact .inl ⟨rfl, rfl⟩
  | @snoc w c s b q e ih =>
    rcases ih with ⟨h1, h2⟩ | ⟨s', c', w', h1, h2, h3⟩
    · subst h1 h2; exact .inr ⟨s, b, [], rfl, e, .nil⟩
    · subst h1; exact .inr ⟨s', c', w' ++ [(s : Int)], rfl, h2, h3.snoc e⟩
theorem Wk.last {kinds : List (List Int)} {a b : Nat} {w : List Int} (p : Wk kinds a w b) : (w = [] ∧ a = b) ∨ ∃ (s c : Nat) (w' : List Int), w = w' ++ [(s : Int)] ∧ Wk kinds a w' c ∧ exit kinds c s b := by
  cases p with
  | nil => exact .inl ⟨rfl, rfl⟩
  | snoc q e => exact .inr ⟨_, _, _, rfl, q, e⟩
def lx : List Int → List Int → Prop
  | x :: xs, y :: ys => x < y ∨ (x = y ∧ lx xs ys)
  | _, _ => False
theorem lx_irr : ∀ xs : List Int, ¬ lx xs xs
  | [], h => h
  | x :: xs, h => by
    rcases h with h | ⟨_, h⟩
    · omega
    · exact lx_irr xs h
theorem lx_trans : ∀ {xs ys zs : List Int}, lx xs ys → lx ys zs → lx xs zs
  | [], _, _, h, _ => h.elim
  | _ :: _, [], _, h, _ => h.elim
  | _ :: _, _ :: _, [], _, h => h.elim
  | x :: xs, y :: ys, z :: zs, h1, h2 => by
    rcases h1 with h1 | ⟨h1, q1⟩ <;> rcases h2 with h2 | ⟨h2, q2⟩
    · exact .inl (by omega)
    · exact .inl (by omega)
    · exact .inl (by omega)
    · exact .inr ⟨by omega, lx_trans q1 q2⟩
theorem lx_snoc {a b : Int} : ∀ {xs ys : List Int}, lx xs ys → lx (xs ++ [a]) (ys ++ [b])
  | [], _, h => h.elim
  | _ :: _, [], h => h.elim
  | x :: xs, y :: ys, h => by
    rcases h with h | ⟨h, q⟩
    · exact .inl h
    · exact .inr ⟨h, lx_snoc q⟩
theorem lx_end {a b : Int} (h : a < b) : ∀ xs : List Int, lx (xs ++ [a]) (xs ++ [b])
  | [] => .inl h
  | x :: xs => .inr ⟨rfl, lx_end h xs⟩
/-- shorter, or as long and less -/
def Prec (v w : List Int) : Prop := v.length < w.length ∨ (v.length = w.length ∧ lx v w)
theorem Prec.irr {w : List Int} (h : Prec w w) : False := by
  rcases h with h | ⟨_, h⟩
  · omega
  · exact lx_irr w h
theorem Prec.trans {u v w : List Int} (h : Prec u v) (g : Prec v w) : Prec u w := by
  rcases h with h | ⟨h, q⟩ <;> rcases g with g | ⟨g, r⟩
  · exact .inl (by omega)
  · exact .inl (by omega)
  · exact .inl (by omega)
  · exact .inr ⟨by omega, lx_trans q r⟩
theorem Prec.snoc {v w : List Int} {a b : Int} (h : Prec v w) : Prec (v ++ [a]) (w ++ [b]) := by
  rcases h with h | ⟨h, q⟩
  · exact .inl (by simp; omega)
  · exact .inr ⟨by simp; omega, lx_snoc q⟩
theorem Prec.fin {v : List Int} {a b : Int} (h : a < b) : Prec (v ++ [a]) (v ++ [b]) := .inr ⟨by simp, lx_end h v⟩
theorem Prec.long {v : List Int} {a : Int} : Prec v (v ++ [a]) := .inl (by simp)
def PrecE (v w : List Int) : Prop := v = w ∨ Prec v w
theorem PrecE.trans {u v w : List Int} (h : PrecE u v) (g : PrecE v w) : PrecE u w := by
  rcases h with h | h
  · subst h; exact g
  · rcases g with g | g
    · subst g; exact .inr h
    · exact .inr (h.trans g)
theorem PrecE.snoc {v w : List Int} {a : Int} (h : PrecE v w) : PrecE (v ++ [a]) (w ++ [a]) := by
  rcases h with h | h
  · subst h; exact .inl rfl
  · exact .inr h.snoc
/-- the least of the shortest ways back -/
structure IsRnd (kinds : List (List Int)) (k : Nat) (w : List Int) : Prop where
  wk : Wk kinds k w k
  ne : w ≠ []
  le : ∀ v, Wk kinds k v k → v ≠ [] → PrecE w v
theorem IsRnd.uniq {kinds : List (List Int)} {k : Nat} {v w : List Int} (h : IsRnd kinds k v) (g : IsRnd kinds k w) : v = w := by
  rcases h.le w g.wk g.ne with e | e
  · exact e
  · rcases g.le v h.wk h.ne with q | q
    · exact q.symm
    · exact (e.trans q).irr.elim
open Classical in
noncomputable def rndM (kinds : List (List Int)) (k : Int) : Option (List Int) := if h : ∃ w, IsRnd kinds k.toNat w then some h.choose else none
theorem rndM_some {kinds : List (List Int)} {k : Nat} {w : List Int} (h : IsRnd kinds k w) : rndM kinds (k : Int) = some w := by
  have e : ∃ w, IsRnd kinds (k : Int).toNat w := ⟨w, h⟩
  unfold rndM
  rw [dif_pos e]
  exact congrArg some ((Exists.choose_spec e).uniq h)
theorem rndM_none {kinds : List (List Int)} {k : Nat} (h : ∀ w, Wk kinds k w k → w = []) : rndM kinds (k : Int) = none := by
  unfold rndM
  rw [dif_neg]
  rintro ⟨w, q⟩
  exact q.ne (h w q.wk)
/-! the search from the kind -/
def earlier (i s a t : Nat) : Prop := i < a ∨ (i = a ∧ s < t)
structure Bfs (kinds : List (List Int)) (k : Nat) (f : Int → Option (List Int)) (Q : List (Nat × List Int)) (a t : Nat) : Prop where
  nd : (Q.map (·.1)).Nodup
  fq : ∀ (j : Nat) l, f (j : Int) = some l ↔ (j, l) ∈ Q
  hd : (k, []) ∈ Q
  rg : ∀ p ∈ Q, p.1 < kinds.length
  wk : ∀ p ∈ Q, Wk kinds k p.2 p.1
  inc : ∀ (i j : Nat) p q, i < j → Q[i]? = some p → Q[j]? = some q → Prec p.2 q.2
  src : ∀ p ∈ Q, p.2 = [] ∨ ∃ i s p0, earlier i s a t ∧ Q[i]? = some p0 ∧ p.2 = p0.2 ++ [(s : Int)]
  pr : ∀ i s p, earlier i s a t → Q[i]? = some p → ∀ x : Int, (ix kinds (p.1 : Int))[s]? = some x → x ≠ (k : Int) ∧ (0 ≤ x → ∃ l, (x.toNat, l) ∈ Q ∧ PrecE l (p.2 ++ [(s : Int)]))
section
variable {kinds : List (List Int)} {k : Nat} {f : Int → Option (List Int)} {Q : List (Nat × List Int)} {a t h : Nat} {l : List Int}
theorem Bfs.all (B : Bfs kinds k f Q a t) (e : Q[a]? = some (h, l)) : ∀ p ∈ Q, Prec p.2 (l ++ [(t : Int)]) := fun p hp => by
  rcases B.src p hp with q | ⟨i, s, p0, q1, q2, q3⟩
  · rw [q]; exact .inl (by simp)
  · rw [q3]
    rcases q1 with z | ⟨z, z2⟩
    · exact (B.inc _ _ _ _ z q2 e).snoc
    · subst z
      rw [e] at q2; cases q2
      exact Prec.fin (by omega)
theorem Bfs.start (hk : k < kinds.length) : Bfs kinds k (fun j => if j = (k : Int) then some [] else none) [(k, [])] 0 0 where
  nd := by simp
  fq j l := by
    by_cases z : (j : Int) = (k : Int)
    · have : j = k := by omega
      subst this
      rw [if_pos rfl]
      simp [eq_comm]
    · rw [if_neg z]
      have : j ≠ k := fun q => z (by rw [q])
      simp [this]
  hd := by simp
  rg p hp := by rw [List.mem_singleton.mp hp]; exact hk
  wk p hp := by rw [List.mem_singleton.mp hp]; exact .nil
  inc i j p q hij e1 e2 := by
    have := (List.getElem?_eq_some_iff.mp e2).1
    simp at this; omega
  src p hp := by rw [List.mem_singleton.mp hp]; exact .inl rfl
  pr i s p e := by rcases e with e | ⟨_, e⟩ <;> omega
theorem earlier_succ {i s : Nat} (e : earlier i s a (t + 1)) : earlier i s a t ∨ (i = a ∧ s = t) := by
  rcases e with e | ⟨e1, e2⟩
  · exact .inl (.inl e)
  · by_cases z : s = t
    · exact .inr ⟨e1, z⟩
    · exact .inl (.inr ⟨e1, by omega⟩)
theorem earlier_mono {i s : Nat} (e : earlier i s a t) : earlier i s a (t + 1) := by
  rcases e with e | ⟨e1, e2⟩
  · exact .inl e
  · exact .inr ⟨e1, by omega⟩
theorem Bfs.skip (B : Bfs kinds k f Q a t) (e : Q[a]? = some (h, l)) {x : Int} (hx : (ix kinds (h : Int))[t]? = some x) (hk : x ≠ (k : Int)) (hf : 0 ≤ x → (f x).isSome = true) : Bfs kinds k f Q a (t + 1) := by
  refine ⟨B.nd, B.fq, B.hd, B.rg, B.wk, B.inc, fun p hp => ?_, fun i s p e1 e2 y hy => ?_⟩
  · rcases B.src p hp with q | ⟨i, s, p0, q1, q2, q3⟩
    · exact .inl q
    · exact .inr ⟨i, s, p0, earlier_mono q1, q2, q3⟩
  · rcases earlier_succ e1 with z | ⟨z1, z2⟩
    · exact B.pr i s p z e2 y hy
    · subst z1 z2
      rw [e] at e2; cases e2
      rw [hx] at hy; cases hy
      refine ⟨hk, fun x0 => ?_⟩
      obtain ⟨l', hl'⟩ := Option.isSome_iff_exists.mp (hf x0)
      have m := (B.fq x.toNat l').mp (by rw [show ((x.toNat : Nat) : Int) = x by omega]; exact hl')
      exact ⟨l', m, .inr (B.all e _ m)⟩
theorem Bfs.push (B : Bfs kinds k f Q a t) (e : Q[a]? = some (h, l)) {x : Int} (hx : (ix kinds (h : Int))[t]? = some x) (hk : x ≠ (k : Int)) (x0 : 0 ≤ x) (x1 : x < kinds.length) (hf : f x = none) :
    Bfs kinds k (fun j => if j = x then some (l ++ [(t : Int)]) else f j) (Q ++ [(x.toNat, l ++ [(t : Int)])]) a (t + 1) := by
  obtain ⟨u, rfl⟩ : ∃ u : Nat, x = (u : Int) := ⟨x.toNat, by omega⟩
  rw [Int.toNat_natCast]
  have hn : ∀ l', (u, l') ∉ Q := fun l' m => by
    have := (B.fq u l').mpr m
    rw [hf] at this; cases this
  have hem := List.mem_of_getElem? e
  have keep : ∀ {i : Nat} {p}, Q[i]? = some p → (Q ++ [(u, l ++ [(t : Int)])])[i]? = some p := fun {i p} q => by
    rw [List.getElem?_append_left (List.getElem?_eq_some_iff.mp q).1]; exact q
  have back : ∀ {i : Nat} {p}, (Q ++ [(u, l ++ [(t : Int)])])[i]? = some p → Q[i]? = some p ∨ (i = Q.length ∧ p = (u, l ++ [(t : Int)])) := fun {i p} q => by
    by_cases z : i < Q.length
    · rw [List.getElem?_append_left z] at q; exact .inl q
    · have hl := (List.getElem?_eq_some_iff.mp q).1
      rw [List.length_append, List.length_singleton] at hl
      have : i = Q.length := by omega
      subst this
      rw [List.getElem?_concat_length] at q
      cases q
      exact .inr ⟨rfl, rfl⟩
  have ea := (List.getElem?_eq_some_iff.mp e).1
  refine ⟨?_, fun j l' => ?_, List.mem_append_left _ B.hd, fun p hp => ?_, fun p hp => ?_, fun i j p q hij e1 e2 => ?_, fun p hp => ?_, fun i s p e1 e2 y hy => ?_⟩
  · rw [List.map_append, List.nodup_append]
    refine ⟨B.nd, by simp, fun y hy z hz => ?_⟩
    rintro rfl
    obtain ⟨p, hp, rfl⟩ := List.mem_map.mp hy
    simp at hz
    exact hn p.2 (by rw [← hz]; exact hp)
  · by_cases z : (j : Int) = (u : Int)
    · have z' : j = u := by omega
      subst z'
      rw [if_pos rfl, List.mem_append, List.mem_singleton]
      constructor
      · intro q; cases q; exact .inr rfl
      · rintro (q | q)
        · exact (hn _ q).elim
        · cases q; rfl
    · rw [if_neg z, B.fq, List.mem_append, List.mem_singleton]
      constructor
      · exact .inl
      · rintro (q | q)
        · exact q
        · cases q; exact (z rfl).elim
  · rcases List.mem_append.mp hp with q | q
    · exact B.rg p q
    · rw [List.mem_singleton.mp q]; show u < _; omega
  · rcases List.mem_append.mp hp with q | q
    · exact B.wk p q
    · rw [List.mem_singleton.mp q]; exact (B.wk _ hem).snoc hx
  · rcases back e1 with q1 | ⟨q1, _⟩
    · rcases back e2 with q2 | ⟨_, q2⟩
      · exact B.inc i j p q hij q1 q2
      · rw [q2]; exact B.all e p (List.mem_of_getElem? q1)
    · have := (List.getElem?_eq_some_iff.mp e2).1
      rw [List.length_append, List.length_singleton] at this
      omega
  · rcases List.mem_append.mp hp with q | q
    · rcases B.src p q with q | ⟨i, s, p0, q1, q2, q3⟩
      · exact .inl q
      · exact .inr ⟨i, s, p0, earlier_mono q1, keep q2, q3⟩
    · rw [List.mem_singleton.mp q]
      exact .inr ⟨a, t, (h, l), .inr ⟨rfl, by omega⟩, keep e, rfl⟩
  · rcases back e2 with e3 | ⟨z, _⟩
    · rcases earlier_succ e1 with z | ⟨z1, z2⟩
      · obtain ⟨q1, q2⟩ := B.pr i s p z e3 y hy
        refine ⟨q1, fun y0 => ?_⟩
        obtain ⟨l', m, r⟩ := q2 y0
        exact ⟨l', List.mem_append_left _ m, r⟩
      · subst z1 z2
        rw [e] at e3; cases e3
        rw [hx] at hy; cases hy
        exact ⟨hk, fun _ => ⟨l ++ [(s : Int)], by simp, .inl rfl⟩⟩
    · rcases e1 with e1 | ⟨e1, _⟩ <;> omega
theorem Bfs.next (B : Bfs kinds k f Q a t) (e : Q[a]? = some (h, l)) (ht : (ix kinds (h : Int)).length ≤ t) : Bfs kinds k f Q (a + 1) 0 := by
  refine ⟨B.nd, B.fq, B.hd, B.rg, B.wk, B.inc, fun p hp => ?_, fun i s p e1 e2 y hy => ?_⟩
  · rcases B.src p hp with q | ⟨i, s, p0, q1, q2, q3⟩
    · exact .inl q
    · refine .inr ⟨i, s, p0, .inl ?_, q2, q3⟩
      rcases q1 with z | ⟨z, _⟩ <;> omega
  · have hi : i < a + 1 := by rcases e1 with z | ⟨_, z⟩ <;> omega
    by_cases z : i < a
    · exact B.pr i s p (.inl z) e2 y hy
    · have : i = a := by omega
      subst this
      rw [e] at e2; cases e2
      have : s < (ix kinds (h : Int)).length := (List.getElem?_eq_some_iff.mp hy).1
      exact B.pr i s _ (.inr ⟨rfl, by omega⟩) e y hy
/-- what any way leads to stands in the queue, or the way comes later -/
theorem Bfs.cover (B : Bfs kinds k f Q a t) {v : List Int} {j : Nat} (p : Wk kinds k v j) :
    (∃ (i : Nat) (l' : List Int), Q[i]? = some (j, l') ∧ PrecE l' v) ∨ ∃ h l, Q[a]? = some (h, l) ∧ PrecE (l ++ [(t : Int)]) v := by
  induction p with
  | nil =>
    obtain ⟨i, hi⟩ := List.getElem?_of_mem B.hd
    exact .inl ⟨i, [], hi, .inl rfl⟩
  | @snoc w c s b q e ih =>
    rcases ih with ⟨i, l', hi, r⟩ | ⟨h, l, ha, r⟩
    · by_cases z : earlier i s a t
      · obtain ⟨_, q2⟩ := B.pr i s _ z hi _ e
        obtain ⟨l2, m, r2⟩ := q2 (by omega)
        rw [Int.toNat_natCast] at m
        obtain ⟨i2, hi2⟩ := List.getElem?_of_mem m
        exact .inl ⟨i2, l2, hi2, r2.trans r.snoc⟩
      · have hl := (List.getElem?_eq_some_iff.mp hi).1
        have hz : a < i ∨ (i = a ∧ t ≤ s) := by
          by_cases y : a < i
          · exact .inl y
          · refine .inr ⟨?_, ?_⟩
            · by_cases y2 : i < a
              · exact (z (.inl y2)).elim
              · omega
            · by_cases y2 : i < a
              · exact (z (.inl y2)).elim
              · by_cases y3 : s < t
                · exact (z (.inr ⟨by omega, y3⟩)).elim
                · omega
        rcases hz with y | ⟨y, y2⟩
        · have ha : a < Q.length := by omega
          obtain ⟨⟨h, l⟩, hh⟩ : ∃ p, Q[a]? = some p := ⟨_, List.getElem?_eq_getElem ha⟩
          exact .inr ⟨h, l, hh, (PrecE.trans (.inr (B.inc _ _ _ _ y hh hi).snoc) r.snoc)⟩
        · subst y
          refine .inr ⟨c, l', hi, PrecE.trans ?_ r.snoc⟩
          by_cases y3 : t = s
          · subst y3; exact .inl rfl
          · exact .inr (Prec.fin (by omega))
    · exact .inr ⟨h, l, ha, r.trans (.inr .long)⟩
theorem Bfs.found (B : Bfs kinds k f Q a t) (e : Q[a]? = some (h, l)) (hx : (ix kinds (h : Int))[t]? = some (k : Int)) : IsRnd kinds k (l ++ [(t : Int)]) := by
  refine ⟨(B.wk _ (List.mem_of_getElem? e)).snoc hx, by simp, fun v p hv => ?_⟩
  rcases p.last with ⟨z, _⟩ | ⟨s, c, w', rfl, q, ex⟩
  · exact (hv z).elim
  · rcases B.cover q with ⟨i, l', hi, r⟩ | ⟨h2, l2, ha, r⟩
    · by_cases z : earlier i s a t
      · exact ((B.pr i s _ z hi _ ex).1 rfl).elim
      · have hz : a < i ∨ (i = a ∧ t ≤ s) := by
          by_cases y : a < i
          · exact .inl y
          · have y2 : ¬ i < a := fun q => z (.inl q)
            have y3 : ¬ s < t := fun q => z (.inr ⟨by omega, q⟩)
            exact .inr ⟨by omega, by omega⟩
        rcases hz with y | ⟨y, y2⟩
        · exact PrecE.trans (.inr (B.inc _ _ _ _ y e hi).snoc) r.snoc
        · subst y
          rw [e] at hi; cases hi
          refine PrecE.trans ?_ r.snoc
          by_cases y3 : t = s
          · subst y3; exact .inl rfl
          · exact .inr (Prec.fin (by omega))
    · rw [e] at ha; cases ha
      exact r.trans (.inr .long)
theorem Bfs.over (B : Bfs kinds k f Q a t) (e : Q.length ≤ a) : ∀ w, Wk kinds k w k → w = [] := fun w p => by
  rcases p.last with ⟨z, _⟩ | ⟨s, c, w', rfl, q, ex⟩
  · exact z
  · rcases B.cover q with ⟨i, l', hi, r⟩ | ⟨h2, l2, ha, r⟩
    · have := (List.getElem?_eq_some_iff.mp hi).1
      exact ((B.pr i s _ (.inl (by omega)) hi _ ex).1 rfl).elim
    · have := (List.getElem?_eq_some_iff.mp ha).1
      omega
theorem nodup_len : ∀ {xs : List Nat} {n : Nat}, xs.Nodup → (∀ x ∈ xs, x < n) → xs.length ≤ n := fun {xs n} h1 h2 => by
  have := List.Nodup.length_le_of_subset (l₂ := List.range n) h1 (fun x hx => List.mem_range.mpr (h2 x hx))
  rw [List.length_range] at this; exact this
theorem Bfs.small (B : Bfs kinds k f Q a t) : Q.length ≤ kinds.length := by
  have := nodup_len B.nd (n := kinds.length) (fun x hx => by
    obtain ⟨p, hp, rfl⟩ := List.mem_map.mp hx
    exact B.rg p hp)
  rw [List.length_map] at this; exact this
theorem Bfs.short (B : Bfs kinds k f Q a t) : ∀ p ∈ Q, p.2.length < Q.length := by
  have key : ∀ (m i : Nat) p, i ≤ m → Q[i]? = some p → p.2.length ≤ i := by
    intro m
    induction m with
    | zero =>
      intro i p hi hp
      obtain rfl : i = 0 := by omega
      obtain ⟨j, hj⟩ := List.getElem?_of_mem B.hd
      by_cases z : j = 0
      · subst z; rw [hp] at hj; cases hj; simp
      · have := B.inc 0 j _ _ (by omega) hp hj
        rcases this with y | ⟨y, _⟩
        · simp at y
        · simp at y; rw [y]; simp
    | succ m ih =>
      intro i p hi hp
      by_cases z : i ≤ m
      · exact ih i p z hp
      · rcases B.src p (List.mem_of_getElem? hp) with q | ⟨j, s, p0, _, q2, q3⟩
        · rw [q]; simp
        · by_cases y : j < i
          · have := ih j p0 (by omega) q2
            rw [q3]; simp; omega
          · by_cases y2 : j = i
            · subst y2
              rw [hp] at q2; cases q2
              have := congrArg List.length q3
              simp at this
            · have := B.inc i j _ _ (by omega) hp q2
              rw [q3] at this
              exact (Prec.irr (this.trans .long)).elim
  intro p hp
  obtain ⟨i, hi⟩ := List.getElem?_of_mem hp
  have := key i i p (Nat.le_refl _) hi
  have := (List.getElem?_eq_some_iff.mp hi).1
  omega
end

/-! distances to the kind, and the greedy way -/
structure Lev (kinds : List (List Int)) (k : Nat) (st : List (Option Int)) : Prop where
  len : st.length = kinds.length
  zero : ix st (k : Int) = some 0
  pos : ∀ (j : Nat) d, j < kinds.length → ix st (j : Int) = some d → 0 ≤ d
  hi : ∀ (j : Nat) d, j < kinds.length → ix st (j : Int) = some d → d < kinds.length
  dn : ∀ (j : Nat) d, j < kinds.length → ix st (j : Int) = some d → (d = 0 ∧ j = k) ∨ ∃ s t : Nat, exit kinds j s t ∧ ix st (t : Int) = some (d - 1)
  up : ∀ (j s t : Nat) d, j < kinds.length → exit kinds j s t → ix st (t : Int) = some d → ∃ d', ix st (j : Int) = some d' ∧ d' ≤ d + 1
theorem exit_lt {kinds : List (List Int)} {n e : Int} (hg : Good kinds n e) {a s b : Nat} (ha : a < kinds.length) (h : exit kinds a s b) : b < kinds.length := by
  have := (hg.row _ (ix_mem (xs := kinds) (i := (a : Int)) (by omega) (by omega))).2 _ (List.mem_of_getElem? h)
  omega
section
variable {kinds : List (List Int)} {k : Nat} {st : List (Option Int)} {n e : Int}
theorem Lev.walk (L : Lev kinds k st) (hg : Good kinds n e) : ∀ (w : List Int) (j : Nat), j < kinds.length → Wk kinds j w k → ∃ d, ix st (j : Int) = some d ∧ d ≤ w.length
  | w, j, hj, p => by
    rcases p.split with ⟨h1, h2⟩ | ⟨s, c, w', h1, h2, h3⟩
    · subst h2; exact ⟨0, L.zero, by omega⟩
    · obtain ⟨d, e1, e2⟩ := Lev.walk L hg w' c (exit_lt hg hj h2) h3
      obtain ⟨d', e3, e4⟩ := L.up j s c d hj h2 e1
      exact ⟨d', e3, by rw [h1, List.length_cons]; omega⟩
  termination_by w => w.length
  decreasing_by subst h1; simp
def fitsM (kinds : List (List Int)) (st : List (Option Int)) (here left : Int) : List Int :=
  ((List.range (ix kinds here).length).filter fun e : Nat => decide (0 ≤ ix (ix kinds here) (e : Int)) && decide (ix st (ix (ix kinds here) (e : Int)) = some left)).map fun e : Nat => (e : Int)
theorem fits_head {here : Nat} {left : Int} (h : ∃ s t : Nat, exit kinds here s t ∧ ix st (t : Int) = some left) :
    ∃ s t : Nat, (fitsM kinds st (here : Int) left)[0]? = some (s : Int) ∧ exit kinds here s t ∧ ix st (t : Int) = some left ∧ ∀ s' t' : Nat, exit kinds here s' t' → ix st (t' : Int) = some left → s ≤ s' := by
  obtain ⟨s0, t0, e0, f0⟩ := h
  have look : ∀ s t : Nat, exit kinds here s t → s < (ix kinds (here : Int)).length ∧ ix (ix kinds (here : Int)) (s : Int) = (t : Int) := fun s t e => ⟨(List.getElem?_eq_some_iff.mp e).1, ix_getElem (by omega) (by rw [Int.toNat_natCast]; exact e)⟩
  have mem : ∀ s t : Nat, exit kinds here s t → ix st (t : Int) = some left → s ∈ (List.range (ix kinds (here : Int)).length).filter fun e : Nat => decide (0 ≤ ix (ix kinds (here : Int)) (e : Int)) && decide (ix st (ix (ix kinds (here : Int)) (e : Int)) = some left) := fun s t e f => by
    obtain ⟨l1, l2⟩ := look s t e
    refine List.mem_filter.mpr ⟨List.mem_range.mpr l1, ?_⟩
    rw [l2, f]; simp
  have srt : ((List.range (ix kinds (here : Int)).length).filter fun e : Nat => decide (0 ≤ ix (ix kinds (here : Int)) (e : Int)) && decide (ix st (ix (ix kinds (here : Int)) (e : Int)) = some left)).Pairwise (· < ·) := List.Pairwise.filter _ List.pairwise_lt_range
  unfold fitsM
  generalize hfl : ((List.range (ix kinds (here : Int)).length).filter fun e : Nat => decide (0 ≤ ix (ix kinds (here : Int)) (e : Int)) && decide (ix st (ix (ix kinds (here : Int)) (e : Int)) = some left)) = fl at mem srt
  have m0 := mem s0 t0 e0 f0
  cases fl with
  | nil => cases m0
  | cons s fs =>
    have hs : s ∈ s :: fs := List.mem_cons_self
    rw [← hfl] at hs
    obtain ⟨g1, g2⟩ := List.mem_filter.mp hs
    have g1 := List.mem_range.mp g1
    obtain ⟨g3, g4⟩ := (Bool.and_eq_true _ _).mp g2
    have g3 := of_decide_eq_true g3
    have g4 := of_decide_eq_true g4
    have g5 := ixSome (xs := ix kinds (here : Int)) (i := (s : Int)) (by omega) (by omega)
    rw [Int.toNat_natCast] at g5
    refine ⟨s, (ix (ix kinds (here : Int)) (s : Int)).toNat, rfl, ?_, ?_, fun s' t' e' f' => ?_⟩
    · unfold exit; rw [g5]; congr 1; omega
    · rw [show (((ix (ix kinds (here : Int)) (s : Int)).toNat : Nat) : Int) = ix (ix kinds (here : Int)) (s : Int) by omega]; exact g4
    · rcases List.mem_cons.mp (mem s' t' e' f') with q | q
      · omega
      · have := (List.pairwise_cons.mp srt).1 s' q; omega
/-- the greedy way, m steps to go -/
def gr (kinds : List (List Int)) (st : List (Option Int)) : Nat → Int → List Int
  | 0, _ => []
  | m + 1, here => ix (fitsM kinds st here m) 0 :: gr kinds st m (ix (ix kinds here) (ix (fitsM kinds st here m) 0))
/-- where the greedy way may begin -/
structure Gst (kinds : List (List Int)) (st : List (Option Int)) (here : Nat) (m : Nat) : Prop where
  lt : here < kinds.length
  ex : ∃ s t : Nat, exit kinds here s t ∧ ix st (t : Int) = some (m : Int)
  mn : ∀ (s t : Nat) d, exit kinds here s t → ix st (t : Int) = some d → (m : Int) ≤ d
theorem Gst.step (L : Lev kinds k st) (hg : Good kinds n e) {here m : Nat} (g : Gst kinds st here (m + 1)) {s t : Nat} (h : exit kinds here s t) (h2 : ix st (t : Int) = some ((m : Int) + 1)) : Gst kinds st t m := by
  have ht := exit_lt hg g.lt h
  refine ⟨ht, ?_, fun s' t' d e1 e2 => ?_⟩
  · rcases L.dn t _ ht h2 with ⟨q, _⟩ | ⟨s', t', e1, e2⟩
    · omega
    · exact ⟨s', t', e1, by rw [e2]; congr 1; omega⟩
  · obtain ⟨d', e3, e4⟩ := L.up t s' t' d ht e1 e2
    rw [h2] at e3; cases e3
    omega
theorem gr_spec (L : Lev kinds k st) (hg : Good kinds n e) : ∀ (m here : Nat), Gst kinds st here m → Wk kinds here (gr kinds st (m + 1) (here : Int)) k ∧ (gr kinds st (m + 1) (here : Int)).length = m + 1 ∧ ∀ u, Wk kinds here u k → u.length = m + 1 → gr kinds st (m + 1) (here : Int) = u ∨ lx (gr kinds st (m + 1) (here : Int)) u
  | m, here, g => by
    obtain ⟨s, t, h1, h2, h3, h4⟩ := fits_head g.ex
    have e1 : ix (fitsM kinds st (here : Int) (m : Int)) 0 = (s : Int) := ix_getElem (by omega) h1
    have e2 : ix (ix kinds (here : Int)) (s : Int) = (t : Int) := ix_getElem (by omega) (by rw [Int.toNat_natCast]; exact h2)
    have e3 : gr kinds st (m + 1) (here : Int) = (s : Int) :: gr kinds st m (t : Int) := by
      show ix (fitsM kinds st (here : Int) (m : Int)) 0 :: _ = _
      rw [e1, e2]
    have ht := exit_lt hg g.lt h2
    have first : ∀ u, Wk kinds here u k → u.length = m + 1 → ∃ (s' t' : Nat) (u' : List Int), u = (s' : Int) :: u' ∧ exit kinds here s' t' ∧ Wk kinds t' u' k ∧ s ≤ s' ∧ u'.length = m := fun u p hu => by
      rcases p.split with ⟨q1, _⟩ | ⟨s', c, w', q1, q2, q3⟩
      · subst q1; cases hu
      · subst q1
        rw [List.length_cons] at hu
        obtain ⟨d, r1, r2⟩ := L.walk hg w' c (exit_lt hg g.lt q2) q3
        have := g.mn s' c d q2 r1
        have ed : d = (m : Int) := by omega
        subst ed
        exact ⟨s', c, w', rfl, q2, q3, h4 s' c q2 r1, by omega⟩
    rw [e3]
    cases m with
    | zero =>
      have hk : t = k := by
        rcases L.dn t _ ht h3 with ⟨_, q⟩ | ⟨s', t', q1, q2⟩
        · exact q
        · have := L.pos t' _ (exit_lt hg ht q1) q2
          simp at this
      subst hk
      refine ⟨Wk.cons h2 .nil, rfl, fun u p hu => ?_⟩
      obtain ⟨s', t', u', r1, r2, r3, r4, r5⟩ := first u p hu
      have : u' = [] := List.length_eq_zero_iff.mp r5
      subst this r1
      show [(s : Int)] = [(s' : Int)] ∨ lx [(s : Int)] [(s' : Int)]
      by_cases z : s = s'
      · subst z; exact .inl rfl
      · exact .inr (.inl (by omega))
    | succ m =>
      have g2 := g.step L hg h2 (by rw [h3]; simp)
      obtain ⟨p1, p2, p3⟩ := gr_spec L hg m t g2
      refine ⟨Wk.cons h2 p1, by rw [List.length_cons, p2], fun u p hu => ?_⟩
      obtain ⟨s', t', u', r1, r2, r3, r4, r5⟩ := first u p hu
      subst r1
      by_cases z : s = s'
      · subst z
        have : t' = t := by
          unfold exit at h2 r2
          rw [h2] at r2
          have := Option.some.inj r2
          omega
        subst this
        rcases p3 u' r3 r5 with y | y
        · rw [← y]; exact .inl rfl
        · exact .inr (.inr ⟨rfl, y⟩)
      · exact .inr (.inl (by omega))
/-- the greedy way back from the kind is the least of the shortest -/
theorem gr_rnd (L : Lev kinds k st) (hg : Good kinds n e) {m : Nat} (g : Gst kinds st k m) : IsRnd kinds k (gr kinds st (m + 1) (k : Int)) := by
  obtain ⟨p1, p2, p3⟩ := gr_spec L hg m k g
  refine ⟨p1, fun q => (by rw [q] at p2; cases p2), fun v p hv => ?_⟩
  rcases p.split with ⟨q1, _⟩ | ⟨s, c, w', q1, q2, q3⟩
  · exact (hv q1).elim
  · obtain ⟨d, r1, r2⟩ := L.walk hg w' c (exit_lt hg g.lt q2) q3
    have := g.mn s c d q2 r1
    have hl : v.length = w'.length + 1 := by rw [q1, List.length_cons]
    by_cases z : v.length = m + 1
    · rcases p3 v p z with y | y
      · exact .inl y
      · exact .inr (.inr ⟨by omega, y⟩)
    · exact .inr (.inl (by omega))
/-- no way on from the kind leads back -/
theorem lev_none (L : Lev kinds k st) (hg : Good kinds n e) (hk : k < kinds.length) (h : ∀ s t : Nat, exit kinds k s t → ix st (t : Int) = none) : ∀ w, Wk kinds k w k → w = [] := fun w p => by
  rcases p.split with ⟨q1, _⟩ | ⟨s, c, w', q1, q2, q3⟩
  · exact q1
  · obtain ⟨d, r1, _⟩ := L.walk hg w' c (exit_lt hg hk q2) q3
    rw [h s c q2] at r1; cases r1
/-! the building of the levels: all below m are told -/
structure LevB (kinds : List (List Int)) (k : Nat) (st : List (Option Int)) (m : Nat) : Prop where
  len : st.length = kinds.length
  zero : ix st (k : Int) = some 0
  rng : ∀ (j : Nat) d, j < kinds.length → ix st (j : Int) = some d → 0 ≤ d ∧ d < m
  dn : ∀ (j : Nat) d, j < kinds.length → ix st (j : Int) = some d → (d = 0 ∧ j = k) ∨ ∃ s t : Nat, exit kinds j s t ∧ ix st (t : Int) = some (d - 1)
  up : ∀ (j s t : Nat) d, j < kinds.length → exit kinds j s t → ix st (t : Int) = some d → d + 1 < m → ∃ d', ix st (j : Int) = some d' ∧ d' ≤ d + 1
theorem LevB.fin {m : Nat} (hg : Good kinds n e) (L : LevB kinds k st m) (hm : m ≤ kinds.length) (h : ∀ (j s t : Nat) d, j < kinds.length → exit kinds j s t → ix st (t : Int) = some d → d + 1 = m → (ix st (j : Int)).isSome = true) : Lev kinds k st := by
  refine ⟨L.len, L.zero, fun j d hj q => (L.rng j d hj q).1, fun j d hj q => (by have := (L.rng j d hj q).2; omega), L.dn, fun j s t d hj q r => ?_⟩
  by_cases z : d + 1 < m
  · exact L.up j s t d hj q r z
  · by_cases y : d + 1 = m
    · obtain ⟨d', hd⟩ := Option.isSome_iff_exists.mp (h j s t d hj q r y)
      exact ⟨d', hd, by have := (L.rng j d' hj hd).2; omega⟩
    · have := (L.rng t d (exit_lt hg hj q) r).2
      omega
end

def cntN : List (Option Int) → Nat
  | [] => 0
  | o :: os => (if o.isSome = true then 0 else 1) + cntN os
theorem cntN_set {d : Int} : ∀ {os : List (Option Int)} {i : Nat}, os[i]? = some none → cntN (os.set i (some d)) + 1 = cntN os
  | [], i, h => by simp at h
  | o :: os, 0, h => by
    obtain rfl : o = none := by simpa using h
    show (if (some d).isSome = true then 0 else 1) + cntN os + 1 = (if (none : Option Int).isSome = true then 0 else 1) + cntN os
    simp; omega
  | o :: os, i + 1, h => by
    have := cntN_set (d := d) (os := os) (i := i) (by simpa using h)
    show (if o.isSome = true then 0 else 1) + cntN (os.set i (some d)) + 1 = (if o.isSome = true then 0 else 1) + cntN os
    omega
theorem cntN_rep : ∀ n : Nat, cntN (List.replicate n none) = n
  | 0 => rfl
  | n + 1 => by
    rw [List.replicate_succ]
    show (if (none : Option Int).isSome = true then 0 else 1) + cntN (List.replicate n none) = n + 1
    rw [cntN_rep n]; simp; omega
theorem ix_setO {xs : List (Option Int)} {i j : Nat} {c : Option Int} (hi : i < xs.length) (hj : j < xs.length) : ix (xs.set i c) (j : Int) = if i = j then c else ix xs (j : Int) := by
  apply ix_getElem (by omega)
  rw [Int.toNat_natCast, List.getElem?_set]
  split
  · first | rfl | (rw [if_pos hi])
  · have a := ixSome (xs := xs) (i := (j : Int)) (by omega) (by omega)
    rw [Int.toNat_natCast] at a
    exact a
theorem ix_repO {n j : Nat} (h : j < n) : ix (List.replicate n (none : Option Int)) (j : Int) = none := by
  apply ix_getElem (by omega)
  rw [Int.toNat_natCast, List.getElem?_replicate, if_pos h]
/-- those that come next -/
structure News (kinds : List (List Int)) (st : List (Option Int)) (m b : Nat) (nw : List Int) : Prop where
  nd : nw.Nodup
  mem : ∀ x : Int, x ∈ nw ↔ ∃ i : Nat, x = (i : Int) ∧ i < b ∧ ix st (i : Int) = none ∧ ∃ s t : Nat, exit kinds i s t ∧ ix st (t : Int) = some (m : Int)
theorem lev_start {kinds : List (List Int)} {k : Nat} {n e : Int} (hg : Good kinds n e) (hk : k < kinds.length) : LevB kinds k ((List.replicate kinds.length none).set k (some 0)) 1 ∧ cntN ((List.replicate kinds.length none).set k (some 0)) + 1 ≤ kinds.length := by
  have hr : (List.replicate kinds.length (none : Option Int)).length = kinds.length := List.length_replicate
  have at_ : ∀ j : Nat, j < kinds.length → ix ((List.replicate kinds.length (none : Option Int)).set k (some 0)) (j : Int) = if k = j then some 0 else none := fun j hj => by
    rw [ix_setO (by omega) (by omega), ix_repO hj]
  refine ⟨⟨by rw [List.length_set]; exact hr, by rw [at_ k hk, if_pos rfl], fun j d hj q => ?_, fun j d hj q => ?_, fun j s t d hj q r hd => ?_⟩, ?_⟩
  · rw [at_ j hj] at q
    split at q
    · cases q; omega
    · cases q
  · rw [at_ j hj] at q
    split at q
    · cases q; rename_i z; exact .inl ⟨rfl, z.symm⟩
    · cases q
  · rw [at_ t (exit_lt hg hj q)] at r
    split at r
    · cases r; omega
    · cases r
  · have := cntN_set (d := 0) (os := List.replicate kinds.length none) (i := k) (by rw [List.getElem?_replicate, if_pos hk])
    rw [cntN_rep] at this
    omega
section
variable {kinds : List (List Int)} {k m : Nat} {st st2 : List (Option Int)} {nw : List Int} {n e : Int}
theorem lev_next (hg : Good kinds n e) (L : LevB kinds k st (m + 1)) (N : News kinds st m kinds.length nw) (hl : st2.length = st.length) (h : ∀ j : Nat, j < kinds.length → ix st2 (j : Int) = if (j : Int) ∈ nw then some ((m : Int) + 1) else ix st (j : Int)) : LevB kinds k st2 (m + 2) := by
  have old : ∀ (j : Nat) d, j < kinds.length → ix st (j : Int) = some d → ix st2 (j : Int) = some d := fun j d hj q => by
    rw [h j hj, if_neg, q]
    intro z
    obtain ⟨i, h1, _, h3, _⟩ := (N.mem _).mp z
    obtain rfl : j = i := by omega
    rw [h3] at q; cases q
  have low : ∀ (j : Nat) d, j < kinds.length → ix st2 (j : Int) = some d → ix st (j : Int) = some d ∨ (d = (m : Int) + 1 ∧ (j : Int) ∈ nw) := fun j d hj q => by
    rw [h j hj] at q
    split at q
    · cases q; rename_i z; exact .inr ⟨rfl, z⟩
    · exact .inl q
  have hk : k < kinds.length ∨ kinds.length ≤ k := by omega
  refine ⟨hl.trans L.len, ?_, fun j d hj q => ?_, fun j d hj q => ?_, fun j s t d hj q r hd => ?_⟩
  · rcases hk with z | z
    · exact old k 0 z L.zero
    · have q := L.zero
      exfalso
      unfold ix at q
      have : atI st (k : Int) = none := by
        unfold atI ixN
        rw [if_pos (by omega), if_neg (by have := L.len; omega)]; rfl
      rw [this] at q; cases q
  · rcases low j d hj q with z | ⟨z, _⟩
    · have := L.rng j d hj z; omega
    · omega
  · rcases low j d hj q with z | ⟨z, z2⟩
    · rcases L.dn j d hj z with y | ⟨s, t, y1, y2⟩
      · exact .inl y
      · exact .inr ⟨s, t, y1, old t _ (exit_lt hg hj y1) y2⟩
    · obtain ⟨i, h1, _, _, s, t, y1, y2⟩ := (N.mem _).mp z2
      obtain rfl : j = i := by omega
      exact .inr ⟨s, t, y1, old t _ (exit_lt hg hj y1) (by rw [y2]; congr 1; omega)⟩
  · have ht := exit_lt hg hj q
    have r2 : ix st (t : Int) = some d := by
      rcases low t d ht r with z | ⟨z, _⟩
      · exact z
      · omega
    by_cases y : d + 1 < ((m + 1 : Nat) : Int)
    · obtain ⟨d', y1, y2⟩ := L.up j s t d hj q r2 y
      exact ⟨d', old j d' hj y1, y2⟩
    · have hdm : d = (m : Int) := by omega
      subst hdm
      cases q2 : ix st (j : Int) with
      | some d' => exact ⟨d', old j d' hj q2, by have := L.rng j d' hj q2; omega⟩
      | none => exact ⟨(m : Int) + 1, by rw [h j hj, if_pos ((N.mem _).mpr ⟨j, rfl, hj, q2, s, t, q, r2⟩)], by omega⟩
theorem lev_stop (hg : Good kinds n e) (L : LevB kinds k st (m + 1)) (N : News kinds st m kinds.length []) (hm : m + 1 ≤ kinds.length) : Lev kinds k st := L.fin hg hm fun j s t d hj q r hd => by
  cases q2 : ix st (j : Int) with
  | some d' => rfl
  | none =>
    have hdm : d = (m : Int) := by omega
    subst hdm
    have := (N.mem (j : Int)).mpr ⟨j, rfl, hj, q2, s, t, q, r⟩
    cases this
end
def sp_law_steps_to (K : Fg) : Sp := spE K (fun i : List (List Int) × Int => [.vl (tTup (tTup tI)) i.1, .vl tI i.2]) (fun i => Good i.1 1000 1000 ∧ 0 ≤ i.2 ∧ i.2 < i.1.length) (tLst (tO tI)) (fun i y => Lev i.1 i.2.toNat y)
section
variable {P : Program} {w : World} {K : Fg} {mg : Str → Option Value} {base : Heap}
theorem sc_law_steps_to : FnScope ["kinds", "k", "steps", "size", "news", "j", "t"] ["kinds", "k"] (defScope s_law_steps_to) := ⟨rfl, rfl, rfl, by decide +kernel, rfl, by decide +kernel, by decide +kernel⟩
theorem ok_law_steps_to {f : Addr} {fd : FuncData} (F : Fun K "_law_steps_to" "_law_steps_to" s_law_steps_to f fd) (b : Bi mg) : FnOk P w K mg base CX0 1 f fd ["kinds", "k"] (sp_law_steps_to K) := by
  refine fn_okE F sc_law_steps_to 5 rfl (fun _ => rfl) (fun cdv A outer s H E hr ⟨kinds, k⟩ hp => ?_)
  dsimp only at hp ⊢
  obtain ⟨hg, k0, k1⟩ := hp
  have hlen := hg.len
  obtain ⟨k, rfl⟩ : ∃ j : Nat, k = (j : Int) := ⟨k.toNat, by omega⟩
  have hk : k < kinds.length := by omega
  rw [Int.toNat_natCast]
  obtain ⟨hL0, hc0⟩ := lev_start hg hk
  refine b_cons (s_own 2 (s := tO tI) (el_rep (EL.toE (el_lst (eh_cons (TL.E.as (t := tO tI) (y := (none : Option Int)) e_non (fun _ _ r => r)) eh_nil))) (e_lenT b.len (e_var 0)) (by omega) (by simp only [List.length_cons, List.length_nil]; omega)) ?_ sc_law_steps_to.nd)
  rw [flat_one, Int.toNat_natCast]
  refine b_cons (s_seti 2 (m := k) rfl (TL.E.as (t := tO tI) (y := some (0 : Int)) e_int (fun _ _ r => r)) (e_var 1) (by rw [List.length_replicate, ixNp (by omega) (by omega), Int.toNat_natCast]) ?_)
  refine b_cut (fun G' => ∃ st, ∃ a1 a2 a3 a4 : Sl, Lev kinds k st ∧ G' = [.vl (tTup (tTup tI)) kinds, .vl tI (k : Int), .ow (tO tI) st, a1, a2, a3, a4]) (s_forR2 3 (fun m G' => ∃ st, (LevB kinds k st (m + 1) ∧ cntN st + (m + 1) ≤ kinds.length) ∧ G' = [.vl (tTup (tTup tI)) kinds, .vl tI (k : Int), .ow (tO tI) st, .un, .un, .un, .un]) _ b.range e_int (e_add (e_lenT b.len (e_var 0)) e_int) (by omega) (Sub.refl _) ⟨_, ⟨hL0, hc0⟩, rfl⟩ ?_ ?_ sc_law_steps_to.nd rfl) ?_
  · rintro m _ hm ⟨st, ⟨hL, hc⟩, rfl⟩
    have hsl := hL.len
    refine b_cons (s_own 4 (el_lst (s := tI) eh_nil) ?_ sc_law_steps_to.nd)
    refine b_cons (s_forR 5 (fun j G' => ∃ nw, (News kinds st m j nw ∧ nw.length ≤ j) ∧ G' = [.vl (tTup (tTup tI)) kinds, .vl tI (k : Int), .ow (tO tI) st, .vl tI (1 + (m : Int)), .ow tI nw, .un, .un]) _ b.range (e_lenT b.len (e_var 0)) (by omega) (Sub.refl _) ⟨[], ⟨⟨List.nodup_nil, fun x => ⟨fun h => (by cases h), fun ⟨i, _, h, _⟩ => (by omega)⟩⟩, Nat.le_refl _⟩, rfl⟩ ?_ ?_ sc_law_steps_to.nd rfl)
    · rintro j _ hj ⟨nw, ⟨hN, hnl⟩, rfl⟩
      have hjk : j < kinds.length := by omega
      have hrow := hg.row _ (ix_mem (xs := kinds) (i := (j : Int)) (by omega) (by omega))
      have hgk : ∀ (x : Int) (y : Nat), (ix kinds (j : Int))[y]? = some x → -3 ≤ x ∧ x < kinds.length := fun x y h => hrow.2 x (List.mem_of_getElem? h)
      have hfe : ∀ t : Int, (decide (0 ≤ t) && decide (ix st t = some (1 + (m : Int) - 1))) = true ↔ 0 ≤ t ∧ ix st t = some (m : Int) := fun t => by
        rw [show 1 + (m : Int) - 1 = (m : Int) by omega]; simp
      refine b_cut (fun G' => ∃ a nw2, (News kinds st m (j + 1) nw2 ∧ nw2.length ≤ j + 1) ∧ G' = [.vl (tTup (tTup tI)) kinds, .vl tI (k : Int), .ow (tO tI) st, .vl tI (1 + (m : Int)), .ow tI nw2, .vl tI (j : Int), a]) (s_if (t_read 2 rfl (TW.toT (w_and (t_cv (e_ixL (e_var 2) (e_var 5) (atI_ix (by omega) (by omega))) e_non (cv_isN (fun _ v r => none_isO r))) (fun _ => (w_and1 (t_cv (e_lenL b.len (EL.toE (el_lc (lc_TF (f := fun t : Int => t) (g := fun t : Int => decide (0 ≤ t) && decide (ix st t = some (1 + (m : Int) - 1))) (own := [("t", 6)]) (e_ixT (e_var 0) (e_var 5) (atI_ix (by omega) (by omega))) 6 (fun s0 H C cl fp y x hx => (TW.toT (w_and (t_cv (e_var 6) e_int cv_ge) (fun h => (w_and1 (t_cv (e_ixL (e_var 2) (e_var 6) (atI_ix (by have := of_decide_eq_true h; omega) (by have := hgk x y hx; omega))) (e_sub (e_var 3) e_int) cv_eqO)))))) (fun s0 H C cl fp y x hx hd => (e_var 6)) (blkOk_by (N := ["kinds", "k", "steps", "size", "news", "j", "t"]) (sc := defScope s_law_steps_to) (by decide +kernel)) (by omega) (fun _ _ _ _ _ => pg_name sc_law_steps_to.nd rfl (by first | exact Or.inl rfl | exact Or.inr rfl))) rfl sc_law_steps_to.nd))) e_int cv_gt)))))) (fun h => ?_) (fun h => ?_)) ?_
      · obtain ⟨q1, q2⟩ := (Bool.and_eq_true _ _).mp h
        have q1 := of_decide_eq_true q1
        have q2 := of_decide_eq_true q2
        rw [List.map_id'] at q2
        obtain ⟨x, hx⟩ := List.exists_mem_of_length_pos (show 0 < ((ix kinds (j : Int)).filter fun t : Int => decide (0 ≤ t) && decide (ix st t = some (1 + (m : Int) - 1))).length by omega)
        obtain ⟨x1, x2⟩ := List.mem_filter.mp hx
        obtain ⟨x3, x4⟩ := (hfe x).mp x2
        obtain ⟨y, hy⟩ := List.getElem?_of_mem x1
        have hnm : (j : Int) ∉ nw := fun z => by
          obtain ⟨i, e1, e2, _⟩ := (hN.mem _).mp z
          omega
        refine b_cons (s_app 4 rfl (e_var 5) (by omega) ?_)
        refine b_nil ⟨_, nw ++ [(j : Int)], ⟨⟨?_, fun z => ?_⟩, by rw [List.length_append, List.length_singleton]; omega⟩, rfl⟩
        · rw [List.nodup_append]
          exact ⟨hN.nd, by simp, fun u hu v hv => by rw [List.mem_singleton.mp hv]; rintro rfl; exact hnm hu⟩
        · rw [List.mem_append, List.mem_singleton, hN.mem]
          constructor
          · rintro (⟨i, e1, e2, e3⟩ | e1)
            · exact ⟨i, e1, by omega, e3⟩
            · exact ⟨j, e1, by omega, q1, y, x.toNat, by unfold exit; rw [hy]; congr 1; omega, by rw [show ((x.toNat : Nat) : Int) = x by omega]; exact x4⟩
          · rintro ⟨i, e1, e2, e3⟩
            by_cases z : i < j
            · exact .inl ⟨i, e1, z, e3⟩
            · exact .inr (by omega)
      · refine b_nil ⟨_, nw, ⟨⟨hN.nd, fun z => ?_⟩, by omega⟩, rfl⟩
        rw [hN.mem]
        constructor
        · rintro ⟨i, e1, e2, e3⟩
          exact ⟨i, e1, by omega, e3⟩
        · rintro ⟨i, e1, e2, e3, s, t, e4, e5⟩
          by_cases z : i < j
          · exact ⟨i, e1, z, e3, s, t, e4, e5⟩
          · exfalso
            obtain rfl : i = j := by omega
            rw [e3] at h
            have hin : (t : Int) ∈ (ix kinds (i : Int)).filter fun t : Int => decide (0 ≤ t) && decide (ix st t = some (1 + (m : Int) - 1)) := List.mem_filter.mpr ⟨List.mem_of_getElem? e4, (hfe _).mpr ⟨by omega, e5⟩⟩
            have := List.length_pos_of_mem hin
            rw [List.map_id'] at h
            rw [decide_eq_true (show ((((ix kinds (i : Int)).filter fun t : Int => decide (0 ≤ t) && decide (ix st t = some (1 + (m : Int) - 1))).length : Nat) : Int) > 0 by omega)] at h
            cases h
      · rintro _ ⟨a, nw2, q, rfl⟩
        exact B.weak (b_nil ⟨nw2, q, rfl⟩) (.same (.same (.same (.same (.same (.un (.un .nil)))))))
    · rintro _ ⟨nw, ⟨hN, hnl⟩, rfl⟩
      rw [Int.toNat_natCast] at hN hnl
      have hrg : ∀ x ∈ nw, 0 ≤ x ∧ x < kinds.length := fun x hx => by
        obtain ⟨i, e1, e2, _⟩ := (hN.mem x).mp hx
        omega
      refine b_freeze 4 rfl ?_
      refine b_cons (s_forL 5 (fun i G' => ∃ st2, ((st2.length = st.length ∧ (∀ j : Nat, j < kinds.length → ix st2 (j : Int) = if (j : Int) ∈ nw.take i then some ((m : Int) + 1) else ix st (j : Int))) ∧ cntN st2 + i = cntN st) ∧ G' = [.vl (tTup (tTup tI)) kinds, .vl tI (k : Int), .ow (tO tI) st2, .vl tI (1 + (m : Int)), .vl (tLst tI) nw, .un, .un]) _ (e_var 4) (Sub.refl _) ⟨st, ⟨⟨rfl, fun j hj => by rw [List.take_zero, if_neg (by simp)]⟩, rfl⟩, rfl⟩ ?_ ?_ sc_law_steps_to.nd rfl)
      · rintro i x _ hx ⟨st2, ⟨⟨hl2, h2⟩, hc2⟩, rfl⟩
        have hxr := hrg x (List.mem_of_getElem? hx)
        obtain ⟨u, rfl⟩ : ∃ u : Nat, x = (u : Int) := ⟨x.toNat, by omega⟩
        have hu : u < kinds.length := by omega
        have hnt : (u : Int) ∉ nw.take i := fun z => by
          obtain ⟨v, hv⟩ := List.getElem?_of_mem z
          have hvi := (List.getElem?_eq_some_iff.mp hv).1
          rw [List.length_take] at hvi
          rw [List.getElem?_take_of_lt (by omega)] at hv
          have hil := (List.getElem?_eq_some_iff.mp hx).1
          have := (List.getElem?_inj (i := v) (j := i) (by omega) hN.nd).mp (hv.trans hx.symm)
          omega
        have hnone : st2[u]? = some none := by
          have a := ixSome (xs := st2) (i := (u : Int)) (by omega) (by omega)
          rw [Int.toNat_natCast, h2 u hu, if_neg hnt] at a
          obtain ⟨i', e1, _, e3, _⟩ := (hN.mem _).mp (List.mem_of_getElem? hx)
          obtain rfl : u = i' := by omega
          rw [e3] at a; exact a
        have hcs := cntN_set (d := 1 + (m : Int)) hnone
        refine b_cons (s_seti 2 (m := u) rfl (TL.E.as (s := tI) (x := 1 + (m : Int)) (t := tO tI) (y := some (1 + (m : Int))) (e_var 3) (fun _ _ r => r)) (e_var 5) (by rw [ixNp (by omega) (by omega), Int.toNat_natCast]) ?_)
        refine B.weak (b_nil ⟨st2.set u (some (1 + (m : Int))), ⟨⟨by rw [List.length_set]; exact hl2, fun j hj => ?_⟩, by omega⟩, rfl⟩) (.same (.same (.same (.same (.same (.un (.un .nil)))))))
        rw [ix_setO (by omega) (by omega), take_snoc hx]
        by_cases z : u = j
        · subst z
          rw [if_pos rfl, if_pos (by simp)]; congr 1; omega
        · rw [if_neg z, h2 j hj]
          by_cases y : (j : Int) ∈ nw.take i
          · rw [if_pos y, if_pos (by simp [y])]
          · rw [if_neg y, if_neg (by rw [List.mem_append, List.mem_singleton]; rintro (q | q); exact y q; omega)]
      · rintro _ ⟨st2, ⟨⟨hl2, h2⟩, hc2⟩, rfl⟩
        rw [List.take_length] at h2
        refine b_cons (s_if (t_cv (e_lenL b.len (e_var 4)) e_int cv_eqI) (fun h => ?_) (fun h => ?_))
        · have h := of_decide_eq_true h
          obtain rfl : nw = [] := List.length_eq_zero_iff.mp (by omega)
          refine b_cons (s_break ⟨st2, _, _, _, _, ?_, rfl⟩)
          have e : st2 = st := by
            apply List.ext_getElem?
            intro i
            by_cases hi : i < st.length
            · have a := ixSome (xs := st) (i := (i : Int)) (by omega) (by omega)
              have c := ixSome (xs := st2) (i := (i : Int)) (by omega) (by omega)
              rw [Int.toNat_natCast] at a c
              rw [a, c, h2 i (by omega), if_neg (by simp)]
            · rw [List.getElem?_eq_none (by omega), List.getElem?_eq_none (by omega)]
          rw [e]
          exact lev_stop hg hL hN (by omega)
        · have h := of_decide_eq_false h
          have hL2 := lev_next hg hL hN hl2 h2
          refine b_nil (B.weak (b_nil ⟨st2, ⟨hL2, by omega⟩, rfl⟩) (.same (.same (.same (.un (.un (.un (.un .nil))))))))
  · rintro _ ⟨st, ⟨hL, hc⟩, rfl⟩
    exfalso
    omega
  · rintro _ ⟨st, a1, a2, a3, a4, hL, rfl⟩
    refine b_freeze 2 rfl ?_
    exact b_cons (s_ret (e_var 2) (fun M v r => ⟨st, hL, r⟩))
end

theorem list_min : ∀ {xs : List Int}, xs ≠ [] → ∃ lo ∈ xs, ∀ y ∈ xs, lo ≤ y
  | [], h => (h rfl).elim
  | [x], _ => ⟨x, by simp, fun y hy => by rw [List.mem_singleton.mp hy]; omega⟩
  | x :: z :: zs, _ => by
    obtain ⟨lo, h1, h2⟩ := list_min (xs := z :: zs) (by simp)
    by_cases q : x ≤ lo
    · exact ⟨x, by simp, fun y hy => by
        rcases List.mem_cons.mp hy with r | r
        · omega
        · have := h2 y r; omega⟩
    · exact ⟨lo, List.mem_cons_of_mem _ h1, fun y hy => by
        rcases List.mem_cons.mp hy with r | r
        · omega
        · exact h2 y r⟩
noncomputable def sp_law_round (K : Fg) : Sp := spG K (fun i : List (List Int) × Int => [.vl (tTup (tTup tI)) i.1, .vl tI i.2]) (fun i => Good i.1 1000 1000 ∧ 0 ≤ i.2 ∧ i.2 < i.1.length) (tO (tTup tI)) (fun i => rndM i.1 i.2)
section
variable {P : Program} {w : World} {K : Fg} {mg : Str → Option Value} {base : Heap}
theorem sc_law_round : FnScope ["kinds", "k", "steps", "goes", "t", "way", "here", "left", "fits", "e"] ["kinds", "k"] (defScope s_law_round) := ⟨rfl, rfl, rfl, by decide +kernel, rfl, by decide +kernel, by decide +kernel⟩
theorem ok_law_round {f : Addr} {fd : FuncData} (F : Fun K "_law_round" "_law_round" s_law_round f fd) (b : Bi mg) (C_law_steps_to : Fn P w K mg base CX0 1 "_law_steps_to" ["kinds", "k"] (sp_law_steps_to K)) : FnOk P w K mg base CX0 2 f fd ["kinds", "k"] (sp_law_round K) := by
  refine fn_ok F sc_law_round 8 rfl (fun _ => rfl) (fun cdv A outer s H E hr ⟨kinds, k⟩ hp => ?_)
  dsimp only at hp ⊢
  have hp' := hp
  obtain ⟨hg, k0, k1⟩ := hp
  have hlen := hg.len
  refine b_cons (s_setX 2 (ex_call (PR := fun y => Lev kinds k.toNat y) C_law_steps_to (hr.mono (by decide)) (EA.toX (ea_cons (e_var 0) (ea_cons (e_var 1) ea_nil))) (fun ss hss => ⟨(kinds, k), hss.symm, hp', fun z hz => hz⟩)) (fun st hL => ?_) sc_law_round.nd)
  obtain ⟨k, rfl⟩ : ∃ j : Nat, k = (j : Int) := ⟨k.toNat, by omega⟩
  rw [Int.toNat_natCast] at hL
  have hk : k < kinds.length := by omega
  have hsl := hL.len
  have hrow := hg.row _ (ix_mem (xs := kinds) (i := (k : Int)) (by omega) (by omega))
  have hgk : ∀ (x : Int) (y : Nat), (ix kinds (k : Int))[y]? = some x → -3 ≤ x ∧ x < kinds.length := fun x y h => hrow.2 x (List.mem_of_getElem? h)
  refine b_cons (s_lc 3 (lc_TF (f := fun t : Int => (ix st t).getD 0) (g := fun t : Int => decide (0 ≤ t) && !decide (ix st t = none)) (own := [("t", 4)]) (e_ixT (e_var 0) (e_var 1) (atI_ix (by omega) (by omega))) 4
    (fun s0 H C cl fp y x hx => (TW.toT (w_and (t_cv (e_var 4) e_int cv_ge) (fun h => (w_and1 (t_cv (e_ixL (e_var 2) (e_var 4) (atI_ix (by have := of_decide_eq_true h; omega) (by have := hgk x y hx; omega))) e_non (cv_isnotN (fun _ v r => none_isO r))))))))
    (fun s0 H C cl fp y x hx hd => TL.E.as (s := tO tI) (x := ix st x) (t := tI) (y := (ix st x).getD 0) (e_ixL (e_var 2) (e_var 4) (atI_ix (by have := of_decide_eq_true ((Bool.and_eq_true _ _).mp hd).1; omega) (by have := hgk x y hx; omega))) (fun M v r => by
      cases q : ix st x with
      | none => rw [q] at hd; simp at hd
      | some d => rw [q] at r; exact r))
    (blkOk_by (N := ["kinds", "k", "steps", "goes", "t", "way", "here", "left", "fits", "e"]) (sc := defScope s_law_round) (by decide +kernel)) (by omega) (fun _ _ _ _ _ => pg_name sc_law_round.nd rfl (by first | exact Or.inl rfl | exact Or.inr rfl))) ?_ rfl sc_law_round.nd)
  generalize hgo : ((ix kinds (k : Int)).filter fun t : Int => decide (0 ≤ t) && !decide (ix st t = none)).map (fun t : Int => (ix st t).getD 0) = goes
  have gm : ∀ d : Int, d ∈ goes ↔ ∃ s t : Nat, exit kinds k s t ∧ ix st (t : Int) = some d := fun d => by
    rw [← hgo, List.mem_map]
    constructor
    · rintro ⟨t, h1, h2⟩
      obtain ⟨h3, h4⟩ := List.mem_filter.mp h1
      obtain ⟨h5, h6⟩ := (Bool.and_eq_true _ _).mp h4
      have h5 := of_decide_eq_true h5
      obtain ⟨y, hy⟩ := List.getElem?_of_mem h3
      refine ⟨y, t.toNat, by unfold exit; rw [hy]; congr 1; omega, ?_⟩
      rw [show ((t.toNat : Nat) : Int) = t by omega]
      cases q : ix st t with
      | none => rw [q] at h6; simp at h6
      | some d' => rw [q] at h2; rw [← h2]; rfl
    · rintro ⟨s, t, h1, h2⟩
      refine ⟨(t : Int), List.mem_filter.mpr ⟨List.mem_of_getElem? h1, ?_⟩, by rw [h2]; rfl⟩
      rw [h2]; simp
  refine b_cons (s_if (t_read 3 rfl (t_cv (e_lenL b.len (e_var 3)) e_int cv_eqI)) (fun h => ?_) (fun h => b_nil ?_))
  · have h := of_decide_eq_true h
    obtain rfl : goes = [] := List.length_eq_zero_iff.mp (by omega)
    refine b_cons (s_ret e_non (fun M v r => ?_))
    show (tO (tTup tI)).rep K M v (rndM kinds (k : Int))
    rw [rndM_none (lev_none hL hg hk fun s t e => ?_)]
    · exact r
    · cases q : ix st (t : Int) with
      | none => rfl
      | some d => have := (gm d).mpr ⟨s, t, e, q⟩; cases this
  · have h := of_decide_eq_false h
    have hne : goes ≠ [] := fun z => h (by rw [z]; rfl)
    obtain ⟨lo, hlo, hmn⟩ := list_min hne
    obtain ⟨s0, t0, e0, f0⟩ := (gm lo).mp hlo
    have ht0 := exit_lt hg hk e0
    have p1 := hL.pos t0 lo ht0 f0
    have p2 := hL.hi t0 lo ht0 f0
    obtain ⟨m, rfl⟩ : ∃ m : Nat, lo = (m : Int) := ⟨lo.toNat, by omega⟩
    have hG : Gst kinds st k m := ⟨hk, ⟨s0, t0, e0, f0⟩, fun s t d e f => hmn d ((gm d).mpr ⟨s, t, e, f⟩)⟩
    have hR := gr_rnd hL hg hG
    refine b_cons (s_set 5 (e_tup (s := tI) eh_nil) ?_ sc_law_round.nd)
    refine b_cons (s_set 6 (e_var 1) ?_ sc_law_round.nd)
    refine b_freeze 3 rfl ?_
    refine b_cons (s_forRR 7 (fun i G' => ∃ (way : List Int) (here : Int), (way ++ gr kinds st (m + 1 - i) here = gr kinds st (m + 1) (k : Int) ∧ way.length = i ∧ (i ≤ m → ∃ h : Nat, here = (h : Int) ∧ Gst kinds st h (m - i))) ∧ G' = [.vl (tTup (tTup tI)) kinds, .vl tI (k : Int), .vl (tLst (tO tI)) st, .vl (tLst tI) goes, .un, .vl (tTup tI) way, .vl tI here, .un, .un, .un]) _ b.reversed b.range (e_add (e_minL rfl b.min (e_var 3) hlo hmn) e_int) (by omega) (Sub.refl _) ⟨[], (k : Int), ⟨rfl, rfl, fun _ => ⟨k, rfl, hG⟩⟩, rfl⟩ ?_ ?_ sc_law_round.nd rfl)
    · rintro i _ hi ⟨way, here, ⟨h1, h2, h3⟩, rfl⟩
      have him : i ≤ m := by omega
      obtain ⟨hh, rfl, g⟩ := h3 him
      obtain ⟨s, t, q1, q2, q3, q4⟩ := fits_head g.ex
      have hgl := g.lt
      have hrh := hg.row _ (ix_mem (xs := kinds) (i := (hh : Int)) (by omega) (by omega))
      have hxe : ∀ y : Nat, (y : Int) < (ix kinds (hh : Int)).length → -3 ≤ ix (ix kinds (hh : Int)) (y : Int) ∧ ix (ix kinds (hh : Int)) (y : Int) < kinds.length := fun y hy => hrh.2 _ (ix_mem (by omega) hy)
      have hle : (m : Int) + 1 - 1 - (i : Int) = ((m - i : Nat) : Int) := by omega
      rw [hle]
      refine b_cons (s_lc 8 (lc_RF (f := fun e : Nat => (e : Int)) (g := fun e : Nat => decide (0 ≤ ix (ix kinds (hh : Int)) (e : Int)) && decide (ix st (ix (ix kinds (hh : Int)) (e : Int)) = some ((m - i : Nat) : Int))) (own := [("e", 9)]) b.range (e_lenT b.len (e_ixT (e_var 0) (e_var 6) (atI_ix (by omega) (by omega)))) (by omega) 9
        (fun s0 H C cl fp y hy => (TW.toT (w_and (t_cv (e_ixT (e_ixT (e_var 0) (e_var 6) (atI_ix (by omega) (by omega))) (e_var 9) (atI_ix (by omega) (by omega))) e_int cv_ge) (fun h => (w_and1 (t_cv (e_ixL (e_var 2) (e_ixT (e_ixT (e_var 0) (e_var 6) (atI_ix (by omega) (by omega))) (e_var 9) (atI_ix (by omega) (by omega))) (atI_ix (by have := of_decide_eq_true h; omega) (by have := hxe y hy; omega))) (e_var 7) cv_eqO))))))
        (fun s0 H C cl fp y hy hd => (e_var 9))
        (blkOk_by (N := ["kinds", "k", "steps", "goes", "t", "way", "here", "left", "fits", "e"]) (sc := defScope s_law_round) (by decide +kernel)) (fun _ _ _ _ _ => pg_name sc_law_round.nd rfl (by first | exact Or.inl rfl | exact Or.inr rfl))) ?_ rfl sc_law_round.nd)
      rw [Int.toNat_natCast]
      have hfit : ((List.range (ix kinds (hh : Int)).length).filter fun e : Nat => decide (0 ≤ ix (ix kinds (hh : Int)) (e : Int)) && decide (ix st (ix (ix kinds (hh : Int)) (e : Int)) = some ((m - i : Nat) : Int))).map (fun e : Nat => (e : Int)) = fitsM kinds st (hh : Int) ((m - i : Nat) : Int) := rfl
      rw [hfit]
      refine b_freeze 8 rfl ?_
      have e1 : ix (fitsM kinds st (hh : Int) ((m - i : Nat) : Int)) 0 = (s : Int) := ix_getElem (by omega) q1
      have e2 : ix (ix kinds (hh : Int)) (s : Int) = (t : Int) := ix_getElem (by omega) (by rw [Int.toNat_natCast]; exact q2)
      have hs1 : s < (ix kinds (hh : Int)).length := (List.getElem?_eq_some_iff.mp q2).1
      have at0 : atI (fitsM kinds st (hh : Int) ((m - i : Nat) : Int)) 0 = some (s : Int) := atI_nat (j := 0) q1
      refine b_cons (s_set 5 (e_catA (e_var 5) (e_tup (eh_cons (e_ixL (e_var 8) e_int at0) eh_nil)) (by simp only [List.length_cons, List.length_nil]; omega)) ?_ sc_law_round.nd)
      refine b_cons (s_set 6 (TL.E.is (x' := (t : Int)) (e_ixT (e_ixT (e_var 0) (e_var 6) (atI_ix (by omega) (by omega))) (e_ixL (e_var 8) e_int at0) (atI_ix (by omega) (by omega))) e2) ?_ sc_law_round.nd)
      refine B.weak (b_nil ⟨way ++ [(s : Int)], (t : Int), ⟨?_, by simp [h2], fun hi2 => ⟨t, rfl, ?_⟩⟩, rfl⟩) (.same (.same (.same (.same (.same (.same (.same (.un (.un (.un .nil))))))))))
      · rw [← h1]
        rw [show m + 1 - i = (m - i) + 1 by omega, show m + 1 - (i + 1) = m - i by omega]
        show _ = way ++ (ix (fitsM kinds st (hh : Int) ((m - i : Nat) : Int)) 0 :: gr kinds st (m - i) (ix (ix kinds (hh : Int)) (ix (fitsM kinds st (hh : Int) ((m - i : Nat) : Int)) 0)))
        rw [e1, e2, List.append_assoc]; rfl
      · have g' : Gst kinds st hh ((m - (i + 1)) + 1) := by rw [show m - (i + 1) + 1 = m - i by omega]; exact g
        exact g'.step hL hg q2 (by rw [q3]; congr 1; omega)
    · rintro _ ⟨way, here, ⟨h1, h2, _⟩, rfl⟩
      refine b_cons (s_ret (e_var 5) (fun M v r => ?_))
      show (tO (tTup tI)).rep K M v (rndM kinds (k : Int))
      rw [rndM_some hR, ← h1]
      rw [show m + 1 - ((m : Int) + 1).toNat = 0 by omega]
      show (tTup tI).rep K M v (way ++ [])
      rw [List.append_nil]; exact r
end

abbrev ndFs : Int → List (Str × Cl) := fun i => [("kind", ⟨tI, i⟩)]
abbrev spNoRound (K : Fg) (C : Addr) : Sp := spXI K C (fun i : Int => [.vl tI i]) (fun _ => True) ndFs
section
variable {P : Program} {w : World} {K : Fg} {mg : Str → Option Value} {base : Heap}
theorem sc_NoRound__init__ : FnScope ["self", "kind"] ["self", "kind"] (defScope sNoRound__init__) := ⟨rfl, rfl, rfl, by decide +kernel, rfl, by decide +kernel, by decide +kernel⟩
theorem okNoRound__init__ {CN : Addr} (T : XCls K CN) (hno : PySem.W.findIn K (.ref CN) "kind" = some none) {f : Addr} {fd : FuncData} (F : Fun K "__init__" "NoRound.__init__" sNoRound__init__ f fd) : FnOk P w K mg base CX0 1 f fd ["self", "kind"] (spNoRound K CN) := by
  exact init1 F sc_NoRound__init__ rfl T.ox hno (by decide) (by decide) (fun _ => rfl)
end

abbrev spround_of (K : Fg) (C CN : Addr) : Sp := spX K (fun i : List (List Int) × Int => [.vl (tBook C) i.1, .vl tI i.2]) (fun i => Good i.1 1000 1000 ∧ 0 ≤ i.2 ∧ i.2 < i.1.length) (tTup tI) (fun i y => rndM i.1 i.2 = some y ∧ y.length ≤ 1000) (fun i c d M => rndM i.1 i.2 = none ∧ XcIs K CN (ndFs i.2) c d M)
section
variable {P : Program} {w : World} {K : Fg} {mg : Str → Option Value} {base : Heap}
theorem sc_round_of : FnScope ["book", "kind", "kinds", "least", "queue", "at", "here", "step", "target"] ["book", "kind"] (defScope sround_of) := ⟨rfl, rfl, rfl, by decide +kernel, rfl, by decide +kernel, by decide +kernel⟩
theorem okround_of {C CN : Addr} (hC : Cls K C) (hna : NoAttr K C "kinds") (XNoRound : XMk P w K mg base "NoRound" CN ["self", "kind"] (spNoRound K CN)) {f : Addr} {fd : FuncData} (F : Fun K "round_of" "round_of" sround_of f fd) (b : Bi mg) : FnOk P w K mg base (L2N.CX P w) 3 f fd ["book", "kind"] (spround_of K C CN) := by
  refine fn_okX F sc_round_of 7 rfl (fun _ => rfl) (fun cdv A outer s H E hr ⟨kinds, kind⟩ hp => ?_)
  dsimp only at hp ⊢
  obtain ⟨hg, k0, k1⟩ := hp
  have hlen := hg.len
  obtain ⟨k, rfl⟩ : ∃ k : Nat, kind = (k : Int) := ⟨kind.toNat, by omega⟩
  have hk : k < kinds.length := by omega
  have hpo := L2.passes_of (X := cxOf (L2N.CX P w) P w K mg base ["book", "kind", "kinds", "least", "queue", "at", "here", "step", "target"] "round_of" (defScope sround_of) f cdv A outer s H E) rfl
  have hu : (cxOf (L2N.CX P w) P w K mg base ["book", "kind", "kinds", "least", "queue", "at", "here", "step", "target"] "round_of" (defScope sround_of) f cdv A outer s H E).A.units + 1 < cLine := by
    have := hr.un
    show (A.deeper _).units + 1 < cLine
    omega
  refine b_cons (s_set 2 (e_kinds (e_var 0) hC hna) ?_ sc_round_of.nd)
  refine b_cons (s_ox 3 (eo_one (e_var 1) (e_tup (s := tI) eh_nil)) ?_ sc_round_of.nd)
  refine b_cons (s_own 4 (el_lst (eh_cons (e_var 1) eh_nil)) ?_ sc_round_of.nd)
  refine b_cons (s_set 5 e_int ?_ sc_round_of.nd)
  refine b_cons (s_while (fun m G' => ∃ fm Q a, (Bfs kinds k fm Q a 0 ∧ m = kinds.length - a) ∧ G' = [.vl (tBook C) kinds, .vl tI (k : Int), .vl (tTup (tTup tI)) kinds, .ox (cF kyI (tTup tI) Q.length fm), .ow tI (Q.map fun p => (p.1 : Int)), .vl tI (a : Int), .un, .un, .un]) _ _ (Sub.refl _) ⟨_, [(k, [])], 0, ⟨Bfs.start hk, rfl⟩, rfl⟩ ?_ hpo)
  · rintro m _ ⟨fm, Q, a, ⟨hB, hm⟩, rfl⟩
    have hsm := hB.small
    refine ⟨_, t_read 4 rfl (t_cv (e_var 5) (e_lenL b.len (e_var 4)) cv_lt), fun h => ?_, fun h => ?_⟩
    · have ha := of_decide_eq_true h
      rw [List.length_map] at ha
      have haQ : a < Q.length := by omega
      obtain ⟨⟨h, l⟩, he⟩ : ∃ p, Q[a]? = some p := ⟨_, List.getElem?_eq_getElem haQ⟩
      have hem := List.mem_of_getElem? he
      have hh := hB.rg _ hem
      have hs := hB.short _ hem
      dsimp only at hh hs
      have hat : atI (Q.map fun p => (p.1 : Int)) (a : Int) = some (h : Int) := by
        exact atI_nat (by rw [List.getElem?_map, he]; rfl)
      have hrow := hg.row _ (ix_mem (xs := kinds) (i := (h : Int)) (by omega) (by omega))
      refine b_cons (s_set 6 (e_ixOw 4 rfl (e_var 5) hat) ?_ sc_round_of.nd)
      refine b_cons (s_forEn 7 8 (fun j G' => ∃ fm Q, (Bfs kinds k fm Q a j ∧ Q[a]? = some (h, l)) ∧ G' = [.vl (tBook C) kinds, .vl tI (k : Int), .vl (tTup (tTup tI)) kinds, .ox (cF kyI (tTup tI) Q.length fm), .ow tI (Q.map fun p => (p.1 : Int)), .vl tI (a : Int), .vl tI (h : Int), .un, .un]) _ b.enumerate (e_ixT (e_var 2) (e_var 6) (atI_ix (by omega) (by omega))) (Sub.refl _) ⟨fm, Q, ⟨hB, he⟩, rfl⟩ ?_ ?_ sc_round_of.nd rfl (hp := hpo))
      · rintro j x _ hx ⟨fm, Q, ⟨hB, he⟩, rfl⟩
        have hsm := hB.small
        have hxr := hrow.2 _ (List.mem_of_getElem? hx)
        have hl : fm (h : Int) = some l := (hB.fq h l).mpr (List.mem_of_getElem? he)
        have hjl : j < (ix kinds (h : Int)).length := (List.getElem?_eq_some_iff.mp hx).1
        have hsh := hB.short _ (List.mem_of_getElem? he)
        dsimp only at hsh
        refine b_cons (s_if (t_cv (e_var 8) (e_var 1) cv_eqI) (fun h1 => ?_) (fun h1 => ?_))
        · have h2 := of_decide_eq_true h1
          subst h2
          exact b_cons (s_ret (e_catA (e_dget 3 rfl (e_var 6) hl hu) (e_tup (eh_cons (e_var 7) eh_nil)) (by simp only [List.length_cons, List.length_nil]; omega)) (fun M v r => ⟨_, ⟨rndM_some (hB.found he hx), by simp only [List.length_append, List.length_cons, List.length_nil]; omega⟩, r⟩))
        · have h2 := of_decide_eq_false h1
          refine b_nil ?_
          refine b_cut (fun G' => ∃ fm Q, (Bfs kinds k fm Q a (j + 1) ∧ Q[a]? = some (h, l)) ∧ G' = [.vl (tBook C) kinds, .vl tI (k : Int), .vl (tTup (tTup tI)) kinds, .ox (cF kyI (tTup tI) Q.length fm), .ow tI (Q.map fun p => (p.1 : Int)), .vl tI (a : Int), .vl tI (h : Int), .vl tI (j : Int), .vl tI x]) (s_if (TW.toT (w_and (t_cv (e_var 8) e_int cv_ge) (fun _ => w_and1 (t_dnin 3 rfl (e_var 8) hu)))) (fun h3 => ?_) (fun h3 => ?_)) ?_
          · obtain ⟨q1, q2⟩ := (Bool.and_eq_true _ _).mp h3
            have x0 := of_decide_eq_true q1
            have hf : fm x = none := by
              cases q : fm x with
              | none => rfl
              | some y => rw [q] at q2; cases q2
            refine b_cons (s_dput 3 rfl (e_catA (e_dget 3 rfl (e_var 6) hl hu) (e_tup (eh_cons (e_var 7) eh_nil)) (by simp only [List.length_cons, List.length_nil]; omega)) (e_var 8) (by omega) hu ?_)
            refine b_cons (s_app 4 rfl (e_var 8) (by rw [List.length_map]; omega) ?_)
            have hB' := hB.push he hx h2 x0 hxr.2 hf
            refine b_nil ⟨_, _, ⟨hB', ?_⟩, ?_⟩
            · rw [List.getElem?_append_left (List.getElem?_eq_some_iff.mp he).1]; exact he
            · rw [List.length_append, List.length_singleton, List.map_append]
              rw [show (List.map (fun p : Nat × List Int => (p.1 : Int)) [(x.toNat, l ++ [(j : Int)])]) = [x] by simp; omega]
              rfl
          · refine b_nil ⟨fm, Q, ⟨hB.skip he hx h2 (fun x0 => ?_), he⟩, rfl⟩
            cases q : fm x with
            | some y => rfl
            | none => rw [q, decide_eq_true x0] at h3; cases h3
          · rintro _ ⟨fm, Q, q, rfl⟩
            exact B.weak (b_nil ⟨fm, Q, q, rfl⟩) (.same (.same (.same (.same (.same (.same (.same (.un (.un .nil)))))))))
      · rintro _ ⟨fm, Q, ⟨hB, he⟩, rfl⟩
        have hsm := hB.small
        have haQ := (List.getElem?_eq_some_iff.mp he).1
        refine b_cons (s_aug 5 rfl e_int ?_ sc_round_of.nd)
        refine B.weak (b_nil ⟨kinds.length - (a + 1), by omega, fm, Q, a + 1, ⟨hB.next he (Nat.le_refl _), rfl⟩, rfl⟩) (.same (.same (.same (.same (.same (.same (.un (.un (.un .nil)))))))))
    · have ha := of_decide_eq_false h
      rw [List.length_map] at ha
      refine b_cons (s_raise XNoRound (hr.mono (by decide)) (k : Int) (ea_cons (e_var 1) ea_nil) trivial (fun c d M' h => ⟨rndM_none (hB.over (by omega)), h⟩))
end

/-- the handled exception, one of C with its kind -/
abbrev exPre (C : Addr) (p : Addr × Obj) (i : Addr × Int) : Prop := L2N.Zn (.ref C) (some i.1) p.2 ∧ ∃ vs, p.2.data = .fields vs
abbrev sp_law_of_others (K : Fg) (C : Addr) (p : Addr × Obj) : Sp := spG K (fun i : Addr × Int => [.vl (tExc p.1 i.1 (ndFs i.2)) ()]) (exPre C p) tB (fun _ => false)
/-- a class of the program that C is not of -/
structure NotOf (K : Fg) (mg : Str → Option Value) (C : Addr) (n : Str) : Prop where
  ex : ∃ c : Addr, mg n = some (.ref c) ∧ PySem.W.kitOne K (.ref C) (.ref c) = some false
section
variable {P : Program} {w : World} {K : Fg} {mg : Str → Option Value} {base : Heap}
theorem e_notOf {X : Cx} {G : List Sl} {a : Expr} {C dd : Addr} {hp : Addr × Obj} {fs : List (Str × Cl)} {n : Str} {p q pos : Pos} (T : XCls X.K C) (h : Held X C hp dd) (N : NotOf X.K X.mg C n) (hm : X.mg "isinstance" = none) (ha : E X G a (tExc hp.1 dd fs) ()) (hgn : Gl X n := by rfl) (hdn : (n == ("__debug__" : Str)) = false := by decide) (hg : Gl X "isinstance" := by rfl)
    (he : starEach [a, .Name n q] X.env = (false, eval a X.env) :: starEach [.Name n q] X.env := by rfl) (he2 : starEach [.Name n q] X.env = (false, eval (.Name n q) X.env) :: starEach [] X.env := by rfl) (hpl : (backTo pos (starEach [.Name n q] X.env)).any (·.1) = false := by rfl) : E X G (.Call (.Name "isinstance" p) [a, .Name n q] [] pos) tB false := by
  obtain ⟨c, h1, h2⟩ := N.ex
  exact e_isH T h hm ha (e_cls h1 hgn hdn) rel_ref h2 hg he he2 hpl
theorem sc_law_of_others : FnScope ["e"] ["e"] (defScope s_law_of_others) := ⟨rfl, rfl, rfl, by decide +kernel, rfl, by decide +kernel, by decide +kernel⟩
theorem okh_law_of_others {CN : Addr} (T : XCls K CN) (n1 : NotOf K mg CN "BadBook") (n2 : NotOf K mg CN "BadWay") (n3 : NotOf K mg CN "BadEnd") (n4 : NotOf K mg CN "NotAnEnd") (n5 : NotOf K mg CN "BadLabel") (n6 : NotOf K mg CN "BadStep") (n7 : NotOf K mg CN "BadDeed") (n8 : NotOf K mg CN "Uncountable")
    {f : Addr} {fd : FuncData} (F : Fun K "_law_of_others" "_law_of_others" s_law_of_others f fd) (b : Bi mg) : FnHP P w K mg base 1 f fd ["e"] (sp_law_of_others K CN) := by
  refine fn_okHP F sc_law_of_others 0 rfl (fun _ _ => rfl) (fun cdv A outer s H E p hot hr ⟨dd, kk⟩ hp => ?_)
  obtain ⟨hz, hf⟩ := hp
  have hh : Held (L2H.cxH CX0 P w K mg base ["e"] "_law_of_others" (defScope s_law_of_others) f cdv A outer s H E p) CN p dd := ⟨List.mem_singleton.mpr rfl, hz, hf⟩
  refine b_cons (s_if (TW.toT (w_or (t_val (e_notOf T hh n1 b.isinstance (e_var 0))) (fun _ => w_or (t_val (e_notOf T hh n2 b.isinstance (e_var 0))) (fun _ => w_or (t_val (e_notOf T hh n3 b.isinstance (e_var 0))) (fun _ => w_or1 (t_val (e_notOf T hh n4 b.isinstance (e_var 0)))))))) (fun h => ?_) (fun _ => b_nil ?_))
  · cases h
  · exact b_cons (s_ret (e_or (e_notOf T hh n5 b.isinstance (e_var 0)) (fun _ => e_or (e_notOf T hh n6 b.isinstance (e_var 0)) (fun _ => e_or (e_notOf T hh n7 b.isinstance (e_var 0)) (fun _ => e_one (e_notOf T hh n8 b.isinstance (e_var 0)))))) (fun M v r => r))
end

section
variable {P : Program} {w : World} {K : Fg} {mg : Str → Option Value} {base : Heap}
theorem sc_law_whole : FnScope ["value"] ["value"] (defScope s_law_whole) := ⟨rfl, rfl, rfl, by decide +kernel, rfl, by decide +kernel, by decide +kernel⟩
theorem ok_law_whole {f : Addr} {fd : FuncData} (F : Fun K "_law_whole" "_law_whole" s_law_whole f fd) (b : Bi mg) : FnOk P w K mg base CX0 1 f fd ["value"] (spWhole K) := by
  refine fn_ok F sc_law_whole 0 rfl (fun _ => rfl) (fun cdv A outer s H E hr d hp => ?_)
  refine b_cons (s_ret (e_and (e_isD (dd := d) b.isinstance (e_var 0) (e_Tint b.int) (fun _ _ r => r) (kbI d)) (fun _ => e_one (e_not (e_isD (dd := d) b.isinstance (e_var 0) (e_Tbool b.bool) (fun _ _ r => r) (kbB d))))) (fun M v r => ?_))
  exact ret_is r (wholeD_eq d)
end

section
variable {P : Program} {w : World} {K : Fg} {mg : Str → Option Value} {base : Heap}
theorem okh_law_whole {f : Addr} {fd : FuncData} (F : Fun K "_law_whole" "_law_whole" s_law_whole f fd) (b : Bi mg) : FnHP P w K mg base 1 f fd ["value"] (fun _ => spWhole K) := by
  refine fn_okHP F sc_law_whole 0 rfl (fun _ _ => rfl) (fun cdv A outer s H E p hot hr d hp => ?_)
  refine b_cons (s_ret (e_and (e_isD (dd := d) b.isinstance (e_var 0) (e_Tint b.int) (fun _ _ r => r) (kbI d)) (fun _ => e_one (e_not (e_isD (dd := d) b.isinstance (e_var 0) (e_Tbool b.bool) (fun _ _ r => r) (kbB d))))) (fun M v r => ?_))
  exact ret_is r (wholeD_eq d)
end

noncomputable def askM (kinds : List (List Int)) (k : Int) : Option (List Int) × Option Int := match rndM kinds k with | some w => (some w, none) | none => (none, some k)
abbrev tAsk : Ty (Option (List Int) × Option Int) := tL2 (tO (tTup tI)) (tO tI)
noncomputable abbrev sp_law_asked_round (K : Fg) (C : Addr) : Sp := spE K (fun i : List (List Int) × Int => [.vl (tBook C) i.1, .vl tI i.2]) (fun i => Good i.1 1000 1000 ∧ 0 ≤ i.2 ∧ i.2 < i.1.length) tAsk (fun i y => y = askM i.1 i.2 ∧ ∀ w, rndM i.1 i.2 = some w → w.length ≤ 1000)
section
variable {P : Program} {w : World} {K : Fg} {mg : Str → Option Value} {base : Heap}
theorem sc_law_asked_round : FnScope ["book", "k", "told", "e"] ["book", "k"] (defScope s_law_asked_round) := ⟨rfl, rfl, rfl, by decide +kernel, rfl, by decide +kernel, by decide +kernel⟩
theorem ok_law_asked_round {C CN : Addr} (T : XCls K CN) (hno : PySem.W.findIn K (.ref CN) "kind" = some none) (mN : mg "NoRound" = some (.ref CN)) (eN : PySem.W.exmOne K (.ref CN) (.ref CN) = some true) {cE : Addr} (mE : mg "EndsError" = some (.ref cE)) (kE : PySem.W.kitOne K (.ref CN) (.ref cE) = some true) (kV : PySem.W.kitOne K (.ref CN) (.type "ValueError") = some true)
    {f : Addr} {fd : FuncData} (F : Fun K "_law_asked_round" "_law_asked_round" s_law_asked_round f fd) (b : Bi mg) (Cround_of : Fn P w K mg base (L2N.CX P w) 3 "round_of" ["book", "kind"] (spround_of K C CN))
    (H_law_of_others : FnP P w K mg base 1 "_law_of_others" ["e"] (sp_law_of_others K CN)) (H_law_whole : FnP P w K mg base 1 "_law_whole" ["value"] (fun _ => spWhole K)) : FnOk P w K mg base CX0 4 f fd ["book", "k"] (sp_law_asked_round K C) := by
  refine fn_okE F sc_law_asked_round 2 rfl (fun _ => rfl) (fun cdv A outer s H E hr ⟨kinds, k⟩ hp => ?_)
  dsimp only at hp ⊢
  refine b_cons (s_set 2 (e_L2 e_non (e_neg e_int)) ?_ sc_law_asked_round.nd)
  refine b_cut (fun G' => (∀ w, rndM kinds k = some w → w.length ≤ 1000) ∧ G' = [.vl (tBook C) kinds, .vl tI k, .vl tAsk (askM kinds k), .un]) (s_try (ι := Unit) 3 (C := CN) (D := CN) (fs := fun _ => ndFs k) (fun _ G' => rndM kinds k = none ∧ G' = [.vl (tBook C) kinds, .vl tI k, .vl (tL2 tN tI) ((), -1), .un]) (fun pn xe => ?_) (fun _ G' p dd pn hx hh hot => ?_) mN eN sc_law_asked_round.nd) ?_
  · refine b_cons (s_setR 2 (er_L2 (ER.as (t := tO (tTup tI)) (P' := fun y => ∃ w, y = some w ∧ rndM kinds k = some w ∧ w.length ≤ 1000) (er_call Cround_of (hr.mono (by decide)) (kinds, k) (ea_cons (e_var 0) (ea_cons (e_var 1) ea_nil)) hp) (fun x hx => ⟨some x, ⟨x, rfl, hx⟩, fun _ _ r => r⟩)) (TL.E.as (t := tO tI) (y := (none : Option Int)) e_non (fun _ _ r => r))) (fun z hz => ?_) (fun c d M h => ⟨(), h.2, h.1, rfl⟩) sc_law_asked_round.nd)
    obtain ⟨⟨w', h1, h2, h3⟩, h4⟩ := hz
    obtain ⟨z1, z2⟩ := z
    dsimp only at h1 h4
    subst h1 h4
    have e : askM kinds k = (some w', none) := by unfold askM; rw [h2]
    exact b_nil ⟨fun w hw => (by rw [h2] at hw; cases hw; exact h3), by rw [e]; rfl⟩
  · obtain ⟨hx1, rfl⟩ := hx
    have e : askM kinds k = (none, some k) := by unfold askM; rw [hx1]
    have rm : L2H.RoomH 1 ((cxOf CX0 P w K mg base ["book", "k", "told", "e"] "_law_asked_round" (defScope s_law_asked_round) f cdv A outer s H E).nox.suite p.1 (p :: pn)).A := ⟨(hr.mono (by decide) : Room 1 _).dp, (hr.mono (by decide) : Room 1 _).un⟩
    refine b_cons (s_if (TW.toT (w_and (t_val (e_isH T hh b.isinstance (e_var 3) (e_cls mE) rel_ref kE)) (fun _ => w_and (t_val (e_isH T hh b.isinstance (e_var 3) (e_ty (nm := "ValueError") b.ve) rel_ty kV)) (fun _ => w_and (t_not (t_val (e_callHP H_law_of_others rm hot List.mem_cons_self (dd, k) (ea_cons (e_var 3) ea_nil) ⟨hh.zn, hh.fl⟩))) (fun _ => w_and1 (t_val (e_callHP H_law_whole rm hot List.mem_cons_self (.int k) (ea_cons (TL.E.as (s := tI) (x := k) (t := tD) (y := .int k) (e_xh (fs := ndFs k) (cl := ⟨tI, k⟩) T hno hh (e_var 3) rfl) (fun _ _ r => dp_I r)) ea_nil) trivial))))))) (fun h => ?_) (fun h => ?_))
    · refine b_cons (s_set 2 (e_L2 (TL.E.as (t := tO (tTup tI)) (y := (none : Option (List Int))) e_non (fun _ _ r => r)) (TL.E.as (s := tI) (x := k) (t := tO tI) (y := some k) (e_xh (fs := ndFs k) (cl := ⟨tI, k⟩) T hno hh (e_var 3) rfl) (fun _ _ r => r))) ?_ sc_law_asked_round.nd)
      refine b_nil (b_nil ⟨fun w hw => (by rw [hx1] at hw; cases hw), by rw [e]; rfl⟩)
    · cases h
  · rintro _ ⟨hl, rfl⟩
    exact b_cons (s_ret (e_var 2) (fun M v r => ⟨_, ⟨rfl, hl⟩, r⟩))
end

def sp_law_same_rowT (K : Fg) : Sp := spG K (fun i : List Int × List Int => [.vl (tTup tI) i.1, .vl (tTup tI) i.2]) (fun i => i.1 = i.2 ∧ i.2.length ≤ 100000) tB (fun i => true)
def sp_law_same_rowL (K : Fg) : Sp := spG K (fun i : List Int × List Int => [.vl (tTup tI) i.1, .vl (tLst tI) i.2]) (fun i => i.1 = i.2 ∧ i.2.length ≤ 100000) tB (fun i => true)
section
variable {P : Program} {w : World} {K : Fg} {mg : Str → Option Value} {base : Heap}
theorem sc_law_same_row : FnScope ["told", "due", "k"] ["told", "due"] (defScope s_law_same_row) := ⟨rfl, rfl, rfl, by decide +kernel, rfl, by decide +kernel, by decide +kernel⟩
theorem ok_law_same_rowT {f : Addr} {fd : FuncData} (F : Fun K "_law_same_row" "_law_same_row" s_law_same_row f fd) (b : Bi mg) (C_law_whole : Fn P w K mg base CX0 1 "_law_whole" ["value"] (spWhole K)) : FnOk P w K mg base CX0 2 f fd ["told", "due"] (sp_law_same_rowT K) := by
  refine fn_ok F sc_law_same_row 1 rfl (fun _ => rfl) (fun cdv A outer s H E hr ⟨value, due⟩ hp => ?_)
  dsimp only at hp ⊢
  obtain ⟨rfl, hz⟩ := hp
  refine b_cons (s_if (TW.toT (w_or (t_not (t_val (e_isD (dd := dRow value) b.isinstance (e_var 0) (e_Ttuple b.tuple) (fun _ _ r => dp_row r) (kbT _)))) (fun h => (w_or1 (t_cv (e_lenT b.len (e_var 0)) (e_lenT b.len (e_var 1)) cv_neI))))) (fun h1 => ?_) (fun h1 => ?_))
  · have h1p := h1; simp [isTD, dRow] at h1p
  · refine b_nil ?_
    refine b_cons (s_forR 2 (fun m G' => G' = [.vl (tTup tI) value, .vl (tTup tI) value, .un]) _ b.range (e_lenT b.len (e_var 1)) (by omega) (Sub.refl _) rfl ?_ ?_ sc_law_same_row.nd rfl)
    · rintro m _ hm rfl
      refine b_cons (s_if (TW.toT (w_or (t_not (t_val (e_call C_law_whole (hr.mono (by decide)) _ (ea_cons (TL.E.as (t := tD) (y := .int _) (e_ixT (e_var 0) (e_var 2) (atI_ix (by omega) (by omega))) (fun _ _ r => dp_I r)) ea_nil) trivial))) (fun h => (w_or1 (t_cv (e_ixT (e_var 0) (e_var 2) (atI_ix (by omega) (by omega))) (e_ixT (e_var 1) (e_var 2) (atI_ix (by omega) (by omega))) cv_neI))))) (fun h2 => ?_) (fun h2 => ?_))
      · have h2p := h2; simp [wholeD] at h2p
      · exact b_nil (B.weak (b_nil rfl) (.same (.same (.un .nil))))
    · rintro _ rfl
      exact b_cons (s_ret e_bl (fun M v r => r))
theorem ok_law_same_rowL {f : Addr} {fd : FuncData} (F : Fun K "_law_same_row" "_law_same_row" s_law_same_row f fd) (b : Bi mg) (C_law_whole : Fn P w K mg base CX0 1 "_law_whole" ["value"] (spWhole K)) : FnOk P w K mg base CX0 2 f fd ["told", "due"] (sp_law_same_rowL K) := by
  refine fn_ok F sc_law_same_row 1 rfl (fun _ => rfl) (fun cdv A outer s H E hr ⟨value, due⟩ hp => ?_)
  dsimp only at hp ⊢
  obtain ⟨rfl, hz⟩ := hp
  refine b_cons (s_if (TW.toT (w_or (t_not (t_val (e_isD (dd := dRow value) b.isinstance (e_var 0) (e_Ttuple b.tuple) (fun _ _ r => dp_row r) (kbT _)))) (fun h => (w_or1 (t_cv (e_lenT b.len (e_var 0)) (e_lenL b.len (e_var 1)) cv_neI))))) (fun h1 => ?_) (fun h1 => ?_))
  · have h1p := h1; simp [isTD, dRow] at h1p
  · refine b_nil ?_
    refine b_cons (s_forR 2 (fun m G' => G' = [.vl (tTup tI) value, .vl (tLst tI) value, .un]) _ b.range (e_lenL b.len (e_var 1)) (by omega) (Sub.refl _) rfl ?_ ?_ sc_law_same_row.nd rfl)
    · rintro m _ hm rfl
      refine b_cons (s_if (TW.toT (w_or (t_not (t_val (e_call C_law_whole (hr.mono (by decide)) _ (ea_cons (TL.E.as (t := tD) (y := .int _) (e_ixT (e_var 0) (e_var 2) (atI_ix (by omega) (by omega))) (fun _ _ r => dp_I r)) ea_nil) trivial))) (fun h => (w_or1 (t_cv (e_ixT (e_var 0) (e_var 2) (atI_ix (by omega) (by omega))) (e_ixL (e_var 1) (e_var 2) (atI_ix (by omega) (by omega))) cv_neI))))) (fun h2 => ?_) (fun h2 => ?_))
      · have h2p := h2; simp [wholeD] at h2p
      · exact b_nil (B.weak (b_nil rfl) (.same (.same (.un .nil))))
    · rintro _ rfl
      exact b_cons (s_ret e_bl (fun M v r => r))
end

noncomputable def sp_law_rounds_so (K : Fg) (C : Addr) : Sp := spG K (fun i : List (List Int) × List Int => [.vl (tBook C) i.1, .vl (tTup (tTup tI)) i.1, .vl (tLst tI) i.2]) (fun i => Good i.1 1000 1000 ∧ inR i.1.length i.2) tB (fun _ => true)
theorem none_isOT {K : Fg} {M : Hp} {v : V} {x : Option (List Int)} (r : (tO (tTup tI)).rep K M v x) : decide (v = V.non) = decide (x = none) := by
  cases x with
  | none => have : v = V.non := r; rw [this]; rfl
  | some y =>
    obtain ⟨a, vs, e, _⟩ := r
    rw [e]; rfl
section
variable {P : Program} {w : World} {K : Fg} {mg : Str → Option Value} {base : Heap}
theorem sc_law_rounds_so : FnScope ["book", "kinds", "picks", "k", "due", "told"] ["book", "kinds", "picks"] (defScope s_law_rounds_so) := ⟨rfl, rfl, rfl, by decide +kernel, rfl, by decide +kernel, by decide +kernel⟩
theorem ok_law_rounds_so {C : Addr} {f : Addr} {fd : FuncData} (F : Fun K "_law_rounds_so" "_law_rounds_so" s_law_rounds_so f fd) (b : Bi mg) (C_law_round : Fn P w K mg base CX0 2 "_law_round" ["kinds", "k"] (sp_law_round K)) (C_law_asked_round : Fn P w K mg base CX0 4 "_law_asked_round" ["book", "k"] (sp_law_asked_round K C)) (C_law_same_row : Fn P w K mg base CX0 2 "_law_same_row" ["told", "due"] (sp_law_same_rowT K)) : FnOk P w K mg base CX0 5 f fd ["book", "kinds", "picks"] (sp_law_rounds_so K C) := by
  refine fn_ok F sc_law_rounds_so 3 rfl (fun _ => rfl) (fun cdv A outer s H E hr ⟨kinds, picks⟩ hp => ?_)
  dsimp only at hp ⊢
  obtain ⟨hg, hin⟩ := hp
  refine b_cons (s_forL 3 (fun m G' => G' = [.vl (tBook C) kinds, .vl (tTup (tTup tI)) kinds, .vl (tLst tI) picks, .un, .un, .un]) _ (e_var 2) (Sub.refl _) rfl ?_ ?_ sc_law_rounds_so.nd rfl)
  · rintro m k _ hx rfl
    have hk := hin k (List.mem_of_getElem? hx)
    refine b_cons (s_set 4 (e_call C_law_round (hr.mono (by decide)) (kinds, k) (ea_cons (e_var 1) (ea_cons (e_var 3) ea_nil)) ⟨hg, hk⟩) ?_ sc_law_rounds_so.nd)
    refine b_cons (s_setX 5 (ex_call (PR := fun y => y = askM kinds k ∧ ∀ w, rndM kinds k = some w → w.length ≤ 1000) C_law_asked_round (hr.mono (by decide)) (EA.toX (ea_cons (e_var 0) (ea_cons (e_var 3) ea_nil))) (fun ss hss => ⟨(kinds, k), hss.symm, ⟨hg, hk⟩, fun z hz => hz⟩)) (fun told ht => ?_) sc_law_rounds_so.nd)
    obtain ⟨rfl, hl⟩ := ht
    dsimp only
    unfold askM
    cases q : rndM kinds k with
    | none =>
      refine b_cons (s_if (TW.toT (w_and (t_cv (e_var 4) e_non (cv_isN (fun _ v r => none_isOT r))) (fun _ => w_and1 (TW.toT (w_or (t_cv (e_L2a (e_var 5) e_int) e_non (cv_isnotN (fun _ v r => none_isOT r))) (fun _ => w_or (t_cv (e_L2b (e_var 5) e_int) e_non (cv_isN (fun _ v r => none_isO r))) (fun _ => w_or1 (t_cv (e_L2b (e_var 5) e_int) (e_var 3) cv_neO)))))))) (fun h => ?_) (fun h => ?_))
      · simp at h
      · refine b_nil (b_cons (s_if (TW.toT (w_and (q := false) (t_cv (e_var 4) e_non (cv_isnotN (fun _ v r => none_isOT r))) (fun h => absurd h (by simp)))) (fun h => ?_) (fun h => ?_)))
        · simp at h
        · exact b_nil (B.weak (b_nil rfl) (.same (.same (.same (.un (.un (.un .nil)))))))
    | some wv =>
      have hl' := hl wv q
      refine b_cons (s_if (TW.toT (w_and (q := false) (t_cv (e_var 4) e_non (cv_isN (fun _ v r => none_isOT r))) (fun h => absurd h (by simp)))) (fun h => ?_) (fun h => ?_))
      · simp at h
      · refine b_nil (b_cons (s_if (TW.toT (w_and (t_cv (e_var 4) e_non (cv_isnotN (fun _ v r => none_isOT r))) (fun _ => w_and1 (TW.toT (w_or (t_cv (e_L2b (e_var 5) e_int) e_non (cv_isnotN (fun _ v r => none_isO r))) (fun _ => w_or1 (t_not (t_val (e_call C_law_same_row (hr.mono (by decide)) (wv, wv) (ea_cons (TL.E.as (s := tO (tTup tI)) (x := some wv) (t := tTup tI) (y := wv) (e_L2a (s := tO (tTup tI)) (t := tO tI) (z := (some wv, (none : Option Int))) (e_var 5) e_int) (fun _ _ r => r)) (ea_cons (TL.E.as (s := tO (tTup tI)) (x := some wv) (t := tTup tI) (y := wv) (e_var 4) (fun _ _ r => r)) ea_nil)) ⟨rfl, by dsimp only; omega⟩))))))))) (fun h => ?_) (fun h => ?_)))
        · simp at h
        · exact b_nil (B.weak (b_nil rfl) (.same (.same (.same (.un (.un (.un .nil)))))))
  · rintro _ rfl
    exact b_cons (s_ret e_bl (fun M v r => r))
end

def pickedM (many : Int) (row : List Int) : List Int := if decide (many < 13) = true then firstN many else row.map fun d => d % many
theorem picked_in {many : Int} {row : List Int} (h : 1 ≤ many) : inR many (pickedM many row) := by
  unfold pickedM
  split
  · exact firstN_in
  · intro t ht
    obtain ⟨d, _, rfl⟩ := List.mem_map.mp ht
    exact ⟨Int.emod_nonneg _ (by omega), Int.emod_lt_of_pos _ (by omega)⟩
theorem picked_len {many : Int} {row : List Int} (h : row.length ≤ 1000) : (pickedM many row).length ≤ 1000 := by
  unfold pickedM
  split
  · rename_i c; have c := of_decide_eq_true c; rw [firstN_len]; omega
  · rw [List.length_map]; exact h
def sp_law_picked (K : Fg) : Sp := spG K (fun i : Int × List Int => [.vl tI i.1, .vl (tLst tI) i.2]) (fun i => 1 ≤ i.1 ∧ i.2.length ≤ 1000) (tLst tI) (fun i => pickedM i.1 i.2)
section
variable {P : Program} {w : World} {K : Fg} {mg : Str → Option Value} {base : Heap}
theorem sc_law_picked : FnScope ["many", "row", "digit"] ["many", "row"] (defScope s_law_picked) := ⟨rfl, rfl, rfl, by decide +kernel, rfl, by decide +kernel, by decide +kernel⟩
theorem ok_law_picked {f : Addr} {fd : FuncData} (F : Fun K "_law_picked" "_law_picked" s_law_picked f fd) (b : Bi mg) : FnOk P w K mg base CX0 1 f fd ["many", "row"] (sp_law_picked K) := by
  refine fn_ok F sc_law_picked 1 rfl (fun _ => rfl) (fun cdv A outer s H E hr ⟨many, row⟩ hp => ?_)
  dsimp only at hp ⊢
  obtain ⟨h0, h1⟩ := hp
  refine b_cons (s_if (t_cv (e_var 0) e_int cv_lt) (fun h => ?_) (fun h => b_nil ?_))
  · have h' := of_decide_eq_true h
    exact b_cons (s_ret (EL.toE (el_listR rfl b.list b.range (e_var 0) (by omega))) (fun M v r => ret_is r (by unfold pickedM; rw [if_pos h])))
  · exact b_cons (s_ret (EL.toE (el_lc (lc_L (f := fun d : Int => d % many) (own := [("digit", 2)]) (e_var 1) 2 (fun s0 H C cl fp m x hx => e_mod (e_intI b.int (e_var 2)) (e_var 0) (by omega)) (blkOk_by (N := ["many", "row", "digit"]) (sc := defScope s_law_picked) (by decide +kernel)) (by omega) (fun _ _ _ _ _ => pg_name sc_law_picked.nd rfl (by first | exact Or.inl rfl | exact Or.inr rfl))) rfl sc_law_picked.nd)) (fun M v r => ret_is r (by unfold pickedM; rw [if_neg (nt h)])))
end

section
variable {P : Program} {w : World} {K : Fg} {mg : Str → Option Value} {base : Heap}
theorem scFrozen : FnScope ["value", "item"] ["value"] (defScope sfrozen) := ⟨rfl, rfl, rfl, by decide +kernel, rfl, by decide +kernel, by decide +kernel⟩
theorem st_frozen {f : Addr} {fd : FuncData} (F : Fun K "frozen" "frozen" sfrozen f fd) (b : Bi mg) (hm : mg "frozen" = some (.ref f)) (hb : Binds K fd ["value"] []) (n : Nat) (ih : ∀ m, n = m + 1 → FnOk P w K mg base CX0 (m + 1) f fd ["value"] (spFz K m)) : FnOk P w K mg base CX0 (n + 1) f fd ["value"] (spFz K n) := by
    refine fn_ok F scFrozen 1 rfl (fun _ => rfl) (fun cdv A outer s H E hr d hp => ?_)
    cases d with
    | list ds =>
      obtain ⟨m, rfl⟩ : ∃ m, n = m + 1 := by
        cases n with
        | zero => exact (show False from hp).elim
        | succ m => exact ⟨m, rfl⟩
      obtain ⟨hz, hf⟩ := hp
      refine b_cons (s_if (t_val (e_isD2 (dd := .list ds) (d1 := true) (d2 := false) b.isinstance (e_var 0) (e_Tlist b.list) (e_Ttuple b.tuple) (fun _ _ r => r) kb_list_list kb_list_tuple)) (fun _ => ?_) (fun h => by cases h))
      refine b_cons (s_ret (s := tTup tD) (x := ds.map frz) (e_tupL b.tuple (EL.toE (el_lc (lc_S (s := tD) (t := tD) (own := [("item", 1)]) (xs := ds) ((e_var 0).as (fun M v r => rep_DL r)) 1 (fun s0 H C cl fp m' x hx =>
        e_call ⟨f, fd, hm, F.kp, hb, ih m rfl⟩ hr _ (ea_cons (e_var 1) ea_nil) (hf x (List.mem_of_getElem? hx))) (blkOk_by (N := ["value", "item"]) (sc := defScope sfrozen) (by decide +kernel)) hz (fun _ _ _ _ _ => pg_name scFrozen.nd rfl (Or.inl rfl))) rfl scFrozen.nd))) (fun M v r => ?_))
      show Dp K M v (frz (.list ds))
      rw [frz, frzAll_map]; exact rep_TD r
    | tuple ds =>
      obtain ⟨m, rfl⟩ : ∃ m, n = m + 1 := by
        cases n with
        | zero => exact (show False from hp).elim
        | succ m => exact ⟨m, rfl⟩
      obtain ⟨hz, hf⟩ := hp
      refine b_cons (s_if (t_val (e_isD2 (dd := .tuple ds) (d1 := false) (d2 := true) b.isinstance (e_var 0) (e_Tlist b.list) (e_Ttuple b.tuple) (fun _ _ r => r) kb_tuple_list kb_tuple_tuple)) (fun _ => ?_) (fun h => by cases h))
      refine b_cons (s_ret (s := tTup tD) (x := ds.map frz) (e_tupL b.tuple (EL.toE (el_lc (lc_T (s := tD) (t := tD) (own := [("item", 1)]) (xs := ds) ((e_var 0).as (fun M v r => rep_DT r)) 1 (fun s0 H C cl fp m' x hx =>
        e_call ⟨f, fd, hm, F.kp, hb, ih m rfl⟩ hr _ (ea_cons (e_var 1) ea_nil) (hf x (List.mem_of_getElem? hx))) (blkOk_by (N := ["value", "item"]) (sc := defScope sfrozen) (by decide +kernel)) hz (fun _ _ _ _ _ => pg_name scFrozen.nd rfl (Or.inl rfl))) rfl scFrozen.nd))) (fun M v r => ?_))
      show Dp K M v (frz (.tuple ds))
      rw [frz, frzAll_map]; exact rep_TD r
    | none =>
      refine b_cons (s_if (t_val (e_isD2 (dd := .none) (d1 := false) (d2 := false) b.isinstance (e_var 0) (e_Tlist b.list) (e_Ttuple b.tuple) (fun _ _ r => r) kb_NoneType_list kb_NoneType_tuple)) (fun h => by cases h) (fun _ => b_nil ?_))
      exact b_cons (s_ret (e_var 0) (fun M v r => by show Dp K M v (frz .none); rw [frz]; exact r))
    | bool x =>
      refine b_cons (s_if (t_val (e_isD2 (dd := .bool x) (d1 := false) (d2 := false) b.isinstance (e_var 0) (e_Tlist b.list) (e_Ttuple b.tuple) (fun _ _ r => r) kb_bool_list kb_bool_tuple)) (fun h => by cases h) (fun _ => b_nil ?_))
      exact b_cons (s_ret (e_var 0) (fun M v r => by show Dp K M v (frz (.bool x)); rw [frz]; exact r))
    | int x =>
      refine b_cons (s_if (t_val (e_isD2 (dd := .int x) (d1 := false) (d2 := false) b.isinstance (e_var 0) (e_Tlist b.list) (e_Ttuple b.tuple) (fun _ _ r => r) kb_int_list kb_int_tuple)) (fun h => by cases h) (fun _ => b_nil ?_))
      exact b_cons (s_ret (e_var 0) (fun M v r => by show Dp K M v (frz (.int x)); rw [frz]; exact r))
    | str x =>
      refine b_cons (s_if (t_val (e_isD2 (dd := .str x) (d1 := false) (d2 := false) b.isinstance (e_var 0) (e_Tlist b.list) (e_Ttuple b.tuple) (fun _ _ r => r) kb_str_list kb_str_tuple)) (fun h => by cases h) (fun _ => b_nil ?_))
      exact b_cons (s_ret (e_var 0) (fun M v r => by show Dp K M v (frz (.str x)); rw [frz]; exact r))
    | dict kvs => cases n <;> exact (show False from hp).elim
theorem ok_frozen {f : Addr} {fd : FuncData} (F : Fun K "frozen" "frozen" sfrozen f fd) (b : Bi mg) (hm : mg "frozen" = some (.ref f)) (hb : Binds K fd ["value"] []) (n : Nat) : FnOk P w K mg base CX0 (n + 1) f fd ["value"] (spFz K n) := by
  induction n with
  | zero => exact st_frozen F b hm hb 0 fun m e => by cases e
  | succ n ih => exact st_frozen F b hm hb (n + 1) fun m e => by cases e; exact ih
end

section
variable {P : Program} {w : World} {K : Fg} {mg : Str → Option Value} {base : Heap}
theorem scis_whole : FnScope ["value"] ["value"] (defScope sis_whole) := ⟨rfl, rfl, rfl, by decide +kernel, rfl, by decide +kernel, by decide +kernel⟩
theorem okis_whole {f : Addr} {fd : FuncData} (F : Fun K "is_whole" "is_whole" sis_whole f fd) (b : Bi mg) : FnOk P w K mg base CX0 1 f fd ["value"] (spWhole K) := by
  refine fn_ok F scis_whole 0 rfl (fun _ => rfl) (fun cdv A outer s H E hr d hp => ?_)
  refine b_cons (s_ret (e_and (e_isD (dd := d) b.isinstance (e_var 0) (e_Tint b.int) (fun _ _ r => r) (kbI d)) (fun _ => e_one (e_not (e_isD (dd := d) b.isinstance (e_var 0) (e_Tbool b.bool) (fun _ _ r => r) (kbB d))))) (fun M v r => ?_))
  exact ret_is r (wholeD_eq d)
end

def isTargetM (value : Int) (many : Int) : Bool := decide (-3 ≤ value) && decide (value < many)
def spis_target (K : Fg) : Sp := spG K (fun i : Int × Int => [.vl tI i.1, .vl tI i.2]) (fun i => True) tB (fun i => isTargetM i.1 i.2)
section
variable {P : Program} {w : World} {K : Fg} {mg : Str → Option Value} {base : Heap}
theorem sc_is_target : FnScope ["value", "many"] ["value", "many"] (defScope sis_target) := ⟨rfl, rfl, rfl, by decide +kernel, rfl, by decide +kernel, by decide +kernel⟩
theorem okis_target {f : Addr} {fd : FuncData} (F : Fun K "is_target" "is_target" sis_target f fd) (b : Bi mg) (Cis_whole : Fn P w K mg base CX0 1 "is_whole" ["value"] (spWhole K)) : FnOk P w K mg base CX0 2 f fd ["value", "many"] (spis_target K) := by
  refine fn_ok F sc_is_target 0 rfl (fun _ => rfl) (fun cdv A outer s H E hr ⟨value, many⟩ hp => ?_)
  dsimp only at hp ⊢
  refine b_cons (s_ret (e_and (e_call Cis_whole (hr.mono (by decide)) _ (ea_cons (TL.E.as (t := tD) (y := .int _) (e_var 0) (fun _ _ r => dp_I r)) ea_nil) trivial) (fun h => (e_one (e_chain (e_neg e_int) (e_var 0) (e_var 1) cv_le (fun _ => cv_lt) (r0 := ⟨_, op_lt⟩))))) (fun M v r => ?_))
  exact ret_is r (by unfold isTargetM; rfl)
end

def spBook__init__ (K : Fg) (C : Addr) : Sp := spI K C (fun i : PyData × List (List Int) => [.vl tD i.1]) (fun i => (Fit 2 i.1 ∧ frz i.1 = dTab i.2) ∧ Good i.2 1000 1000) (fun i => bookFs i.2)
theorem target_of {n : Nat} {t : Int} (h : -3 ≤ t ∧ t < n) : isTargetM t (n : Int) = true := by
  unfold isTargetM; simp; omega
section
variable {P : Program} {w : World} {K : Fg} {mg : Str → Option Value} {base : Heap}
theorem sc_Book__init__ : FnScope ["self", "kinds", "copied", "kind", "place"] ["self", "kinds"] (defScope sBook__init__) := ⟨rfl, rfl, rfl, by decide +kernel, rfl, by decide +kernel, by decide +kernel⟩
theorem okBook__init__ {C : Addr} (hC : Cls K C) (hna : NoAttr K C "kinds") {f : Addr} {fd : FuncData} (F : Fun K "__init__" "Book.__init__" sBook__init__ f fd) (b : Bi mg) (Cfrozen : Fn P w K mg base CX0 3 "frozen" ["value"] (spFz K 2)) (Cis_target : Fn P w K mg base CX0 2 "is_target" ["value", "many"] (spis_target K)) : FnOk P w K mg base CX0 4 f fd ["self", "kinds"] (spBook__init__ K C) := by
  refine fn_init F sc_Book__init__ 3 rfl (fun _ => rfl) (fun cdv A outer s H E hr ⟨d, ks⟩ p dx hp => ?_)
  dsimp only at hp ⊢
  obtain ⟨⟨hf, hz⟩, hg⟩ := hp
  have hpos := hg.pos
  have hlen := hg.len
  refine b_cons (s_set 2 (TL.E.as (t := tTup (tTup tI)) (y := ks) (e_call Cfrozen (hr.mono (by decide)) d (ea_cons (e_var 1) ea_nil) hf) (fun M v r => by rw [hz] at r; exact pd_tab r)) ?_ sc_Book__init__.nd)
  refine b_cons (s_if (t_cv (e_lenT b.len (e_var 2)) e_int cv_eqI) (fun h => b_never (by have := of_decide_eq_true h; omega)) (fun h => b_nil ?_))
  refine b_cons (s_forR 3 (fun m G' => G' = [.ob p dx C [], .vl tD d, .vl (tTup (tTup tI)) ks, .un, .un]) _ b.range (e_lenT b.len (e_var 2)) (by omega) (Sub.refl _) rfl ?_ ?_ sc_Book__init__.nd rfl)
  · rintro m _ hm rfl
    have hrow := hg.row _ (ix_mem (xs := ks) (i := (m : Int)) (by omega) (by omega))
    refine b_cons (s_forR 4 (fun j G' => G' = [.ob p dx C [], .vl tD d, .vl (tTup (tTup tI)) ks, .vl tI (m : Int), .un]) _ b.range (e_lenT b.len (e_ixT (e_var 2) (e_var 3) (atI_ix (by omega) (by omega)))) (by omega) (Sub.refl _) rfl ?_ ?_ sc_Book__init__.nd rfl)
    · rintro j _ hj rfl
      have ht := hrow.2 _ (ix_mem (xs := ix ks (m : Int)) (i := (j : Int)) (by omega) (by omega))
      refine b_cons (s_if (t_not (t_val (e_call Cis_target (hr.mono (by decide)) (ix (ix ks (m : Int)) (j : Int), (ks.length : Int)) (ea_cons (e_ixT (e_ixT (e_var 2) (e_var 3) (atI_ix (by omega) (by omega))) (e_var 4) (atI_ix (by omega) (by omega))) (ea_cons (e_lenT b.len (e_var 2)) ea_nil)) trivial))) (fun h => b_never ?_) (fun h => b_nil ?_))
      · dsimp only at h; rw [target_of ht] at h; cases h
      · exact B.weak (b_nil rfl) (.same (.same (.same (.same (.un .nil)))))
    · rintro _ rfl
      exact B.weak (b_nil rfl) (.same (.same (.same (.un (.un .nil)))))
  · rintro _ rfl
    refine b_cons (s_fldNew 0 rfl (e_var 2) hC hna rfl (by decide) ?_)
    exact b_nil rfl
end

def movedM (kinds : List (List Int)) (amount : Int) : List (List Int) := kinds.map fun kind => kind.map fun t => if decide (0 ≤ t) = true then t + amount else t
def spmoved_kinds (K : Fg) : Sp := spG K (fun i : List (List Int) × Int => [.vl (tTup (tTup tI)) i.1, .vl tI i.2]) (fun i => i.1.length ≤ 1000 ∧ ∀ r ∈ i.1, r.length ≤ 1000) (tTup (tTup tI)) (fun i => movedM i.1 i.2)
section
variable {P : Program} {w : World} {K : Fg} {mg : Str → Option Value} {base : Heap}
theorem sc_moved_kinds : FnScope ["kinds", "amount", "target", "kind"] ["kinds", "amount"] (defScope smoved_kinds) := ⟨rfl, rfl, rfl, by decide +kernel, rfl, by decide +kernel, by decide +kernel⟩
theorem okmoved_kinds {f : Addr} {fd : FuncData} (F : Fun K "moved_kinds" "moved_kinds" smoved_kinds f fd) (b : Bi mg)  : FnOk P w K mg base CX0 1 f fd ["kinds", "amount"] (spmoved_kinds K) := by
  refine fn_ok F sc_moved_kinds 2 rfl (fun _ => rfl) (fun cdv A outer s H E hr ⟨kinds, amount⟩ hp => ?_)
  dsimp only at hp ⊢
  obtain ⟨h1, h2⟩ := hp
  refine b_cons (s_ret (e_tupL b.tuple (EL.toE (el_lc (lc_T (own := [("kind", 3)]) (e_var 0) 3 (fun s0 H C cl fp m x hx => (e_tupL b.tuple (EL.toE (el_lc (lc_T (own := [("target", 2)]) (e_var 3) 2 (fun s0 H C cl fp m x hx => (e_if (t_cv (e_var 2) e_int cv_ge) (fun h => (e_add (e_var 2) (e_var 1))) (fun h => (e_var 2)))) (blkIn (N := ["kinds", "amount", "target", "kind"]) (by decide +kernel)) (by have := h2 x (List.mem_of_getElem? hx); omega) (fun _ _ _ _ _ => pg_name sc_moved_kinds.nd rfl (by first | exact Or.inl rfl | exact Or.inr rfl))) rfl sc_moved_kinds.nd)))) (blkOk_by (N := ["kinds", "amount", "target", "kind"]) (sc := defScope smoved_kinds) (by decide +kernel)) (by omega) (fun _ _ _ _ _ => pg_name sc_moved_kinds.nd rfl (by first | exact Or.inl rfl | exact Or.inr rfl))) rfl sc_moved_kinds.nd))) (fun M v r => ?_))
  exact r
end

def sumM (l r : List (List Int)) : List (List Int) := ([[1, 1 + (l.length : Int)]] ++ movedM l 1) ++ movedM r (1 + (l.length : Int))
theorem moved_len (l : List (List Int)) (a : Int) : (movedM l a).length = l.length := by unfold movedM; rw [List.length_map]
theorem sum_good {l r : List (List Int)} {n m e : Int} (hl : Good l n e) (hr : Good r m e) (he : 2 ≤ e) : Good (sumM l r) (1 + n + m) e := by
  have p1 := hl.pos
  have p2 := hr.pos
  have l1 := hl.len
  have l2 := hr.len
  have ln : (sumM l r).length = 1 + l.length + r.length := by unfold sumM; rw [List.length_append, List.length_append, moved_len, moved_len]; simp
  refine ⟨by rw [ln]; omega, by rw [ln]; omega, fun x hx => ?_⟩
  rw [ln]
  have mv : ∀ (ks : List (List Int)) (a N : Int), Good ks N e → 0 ≤ a → (∀ y ∈ movedM ks a, (y.length : Int) ≤ e ∧ ∀ t ∈ y, -3 ≤ t ∧ t < ks.length + a) := fun ks a N hk ha y hy => by
    obtain ⟨z, hz, rfl⟩ := List.mem_map.mp hy
    have hq := hk.row z hz
    refine ⟨by rw [List.length_map]; exact hq.1, fun t ht => ?_⟩
    obtain ⟨u, hu, rfl⟩ := List.mem_map.mp ht
    have := hq.2 u hu
    split
    · rename_i c; have c := of_decide_eq_true c; omega
    · omega
  rcases List.mem_append.mp hx with y | y
  · rcases List.mem_append.mp y with y | y
    · rw [List.mem_singleton.mp y]
      refine ⟨by simp; omega, fun t ht => ?_⟩
      simp only [List.mem_cons, List.not_mem_nil, or_false] at ht
      omega
    · have q := mv l 1 n hl (by omega) x y
      exact ⟨q.1, fun t ht => by have := q.2 t ht; omega⟩
  · have q := mv r (1 + (l.length : Int)) m hr (by omega) x y
    exact ⟨q.1, fun t ht => by have := q.2 t ht; omega⟩
def spBook__add__ (K : Fg) (C : Addr) : Sp := spG K (fun i : List (List Int) × List (List Int) => [.vl (tBook C) i.1, .vl (tBook C) i.2]) (fun i => Good i.1 100 100 ∧ Good i.2 100 100) (tBook C) (fun i => sumM i.1 i.2)
section
variable {P : Program} {w : World} {K : Fg} {mg : Str → Option Value} {base : Heap}
theorem sc_Book__add__ : FnScope ["self", "other", "second", "first_kind"] ["self", "other"] (defScope sBook__add__) := ⟨rfl, rfl, rfl, by decide +kernel, rfl, by decide +kernel, by decide +kernel⟩
theorem okBook__add__ {C : Addr} (hC : Cls K C) (hna : NoAttr K C "kinds") {f : Addr} {fd : FuncData} (F : Fun K "__add__" "Book.__add__" sBook__add__ f fd) (b : Bi mg) (CBook : Mkr P w K mg base 4 "Book" C ["self", "kinds"] (spBook__init__ K C)) (Cmoved_kinds : Fn P w K mg base CX0 1 "moved_kinds" ["kinds", "amount"] (spmoved_kinds K)) : FnOk P w K mg base CX0 6 f fd ["self", "other"] (spBook__add__ K C) := by
  refine fn_ok F sc_Book__add__ 2 rfl (fun _ => rfl) (fun cdv A outer s H E hr ⟨l, r⟩ hp => ?_)
  dsimp only at hp ⊢
  obtain ⟨h1, h2⟩ := hp
  have hl := h1.len
  have hl2 := h2.len
  have hs := sum_good h1 h2 (by omega)
  have hfit := hs.row
  have hsl := hs.len
  have m1 := moved_len l 1
  have m2 := moved_len r (1 + (l.length : Int))
  refine b_cons (s_set 2 (e_add e_int (e_lenT b.len (e_kinds (e_var 0) hC hna))) ?_ sc_Book__add__.nd)
  refine b_cons (s_set 3 (e_tup (eh_cons e_int (eh_cons (e_var 2) eh_nil))) ?_ sc_Book__add__.nd)
  exact b_cons (s_ret (TL.E.as (t := tBook C) (y := sumM l r) (e_mk CBook (hr.mono (by decide)) (dTab (sumM l r), sumM l r) (ea_cons (TL.E.as (t := tD) (y := dTab (sumM l r)) (e_catA (e_catA (e_tup (eh_cons (e_var 3) eh_nil)) (e_call Cmoved_kinds (hr.mono (by decide)) (l, 1) (ea_cons (e_kinds (e_var 0) hC hna) (ea_cons e_int ea_nil)) (show l.length ≤ 1000 ∧ ∀ x ∈ l, x.length ≤ 1000 from ⟨by omega, fun x hx => by have := (h1.row x hx).1; omega⟩)) (by show 1 + (movedM l 1).length ≤ _; omega)) (e_call Cmoved_kinds (hr.mono (by decide)) (r, 1 + (l.length : Int)) (ea_cons (e_kinds (e_var 1) hC hna) (ea_cons (e_var 2) ea_nil)) (show r.length ≤ 1000 ∧ ∀ x ∈ r, x.length ≤ 1000 from ⟨by omega, fun x hx => by have := (h2.row x hx).1; omega⟩)) (by show ([[1, 1 + (l.length : Int)]] ++ movedM l 1).length + (movedM r (1 + (l.length : Int))).length ≤ _; rw [List.length_append]; simp; omega)) (fun _ _ r => dp_tab r)) ea_nil) (show (Fit 2 (dTab (sumM l r)) ∧ frz (dTab (sumM l r)) = dTab (sumM l r)) ∧ Good (sumM l r) 1000 1000 from ⟨⟨fit_tab (by omega) (fun x hx => by have := (hs.row x hx).1; omega), frz_dTab _⟩, hs.mono (by omega) (by omega)⟩)) (fun _ _ r => r)) (fun M v r => r))
end

theorem sum_row (kind : List Int) (a : Int) : (kind.map fun t : Int => ix [t, t + a] (if decide (0 ≤ t) = true then 1 else 0)) = kind.map fun t => if decide (0 ≤ t) = true then t + a else t := by
  apply List.map_congr_left
  intro t _
  split
  · exact ix_getElem (by omega) rfl
  · exact ix_getElem (by omega) rfl
theorem moved_take {ks : List (List Int)} {a : Int} {m : Nat} {x : List Int} (h : ks[m]? = some x) : movedM (ks.take (m + 1)) a = movedM (ks.take m) a ++ [x.map fun t => if decide (0 ≤ t) = true then t + a else t] := by
  unfold movedM; rw [take_snoc h, List.map_append]; rfl
def sp_law_sum (K : Fg) : Sp := spG K (fun i : List (List Int) × List (List Int) => [.vl (tTup (tTup tI)) i.1, .vl (tTup (tTup tI)) i.2]) (fun i => Good i.1 100 100 ∧ Good i.2 100 100) (tTup (tTup tI)) (fun i => sumM i.1 i.2)
section
variable {P : Program} {w : World} {K : Fg} {mg : Str → Option Value} {base : Heap}
theorem sc_law_sum : FnScope ["left", "right", "shift", "found", "kind", "t"] ["left", "right"] (defScope s_law_sum) := ⟨rfl, rfl, rfl, by decide +kernel, rfl, by decide +kernel, by decide +kernel⟩
theorem ok_law_sum {f : Addr} {fd : FuncData} (F : Fun K "_law_sum" "_law_sum" s_law_sum f fd) (b : Bi mg) : FnOk P w K mg base CX0 1 f fd ["left", "right"] (sp_law_sum K) := by
  refine fn_ok F sc_law_sum 4 rfl (fun _ => rfl) (fun cdv A outer s H E hr ⟨left, right⟩ hp => ?_)
  dsimp only at hp ⊢
  obtain ⟨h1, h2⟩ := hp
  have hl1 := h1.len
  have hl2 := h2.len
  refine b_cons (s_set 2 (e_add e_int (e_lenT b.len (e_var 0))) ?_ sc_law_sum.nd)
  refine b_cons (s_own 3 (el_lst (eh_cons (e_tup (eh_cons e_int (eh_cons (e_var 2) eh_nil))) eh_nil)) ?_ sc_law_sum.nd)
  refine b_cons (s_forT 4 (fun m G' => G' = [.vl (tTup (tTup tI)) left, .vl (tTup (tTup tI)) right, .vl tI (1 + (left.length : Int)), .ow (tTup tI) ([[1, 1 + (left.length : Int)]] ++ movedM (left.take m) 1), .un, .un]) _ (e_var 0) (Sub.refl _) rfl ?_ ?_ sc_law_sum.nd rfl)
  · rintro m kind _ hx rfl
    have hk := h1.row kind (List.mem_of_getElem? hx)
    have hm := (List.getElem?_eq_some_iff.mp hx).1
    have hml : (movedM (left.take m) 1).length ≤ m := by rw [moved_len, List.length_take]; omega
    rw [moved_take hx, ← List.append_assoc]
    refine b_cons (s_app 3 rfl (TL.E.is (e_tupL b.tuple (EL.toE (el_lc (lc_T (f := fun t : Int => ix [t, t + 1] (if decide (0 ≤ t) = true then 1 else 0)) (xs := kind) (own := [("t", 5)]) (e_var 4) 5 (fun s0 H C cl fp j t ht => e_ixL (EL.toE (el_lst (eh_cons (e_var 5) (eh_cons (e_add (e_var 5) e_int) eh_nil)))) (e_intB b.int (e_cv (e_var 5) e_int cv_ge)) (atI_ix (by split <;> (simp only [List.length_cons, List.length_nil]; omega)) (by split <;> (simp only [List.length_cons, List.length_nil]; omega)))) (blkOk_by (N := ["left", "right", "shift", "found", "kind", "t"]) (sc := defScope s_law_sum) (by decide +kernel)) (by have := hk.1; omega) (fun _ _ _ _ _ => pg_name sc_law_sum.nd rfl (by first | exact Or.inl rfl | exact Or.inr rfl))) rfl sc_law_sum.nd))) (sum_row kind 1)) (by rw [List.length_append]; simp; omega) ?_)
    exact B.weak (b_nil rfl) (.same (.same (.same (.same (.un (.un .nil))))))
  · rintro _ rfl
    rw [List.take_length]
    refine b_cons (s_forT 4 (fun m G' => G' = [.vl (tTup (tTup tI)) left, .vl (tTup (tTup tI)) right, .vl tI (1 + (left.length : Int)), .ow (tTup tI) (([[1, 1 + (left.length : Int)]] ++ movedM left 1) ++ movedM (right.take m) (1 + (left.length : Int))), .un, .un]) _ (e_var 1) (Sub.refl _) (by rw [List.take_zero]; show _ = [_, _, _, Sl.ow (tTup tI) (_ ++ []), _, _]; rw [List.append_nil]) ?_ ?_ sc_law_sum.nd rfl)
    · rintro m kind _ hx rfl
      have hk := h2.row kind (List.mem_of_getElem? hx)
      have hm := (List.getElem?_eq_some_iff.mp hx).1
      have hml : (movedM (right.take m) (1 + (left.length : Int))).length ≤ m := by rw [moved_len, List.length_take]; omega
      have hll : (movedM left 1).length = left.length := moved_len _ _
      rw [moved_take hx, ← List.append_assoc]
      refine b_cons (s_app 3 rfl (TL.E.is (e_tupL b.tuple (EL.toE (el_lc (lc_T (f := fun t : Int => ix [t, t + (1 + (left.length : Int))] (if decide (0 ≤ t) = true then 1 else 0)) (xs := kind) (own := [("t", 5)]) (e_var 4) 5 (fun s0 H C cl fp j t ht => e_ixL (EL.toE (el_lst (eh_cons (e_var 5) (eh_cons (e_add (e_var 5) (e_var 2)) eh_nil)))) (e_intB b.int (e_cv (e_var 5) e_int cv_ge)) (atI_ix (by split <;> (simp only [List.length_cons, List.length_nil]; omega)) (by split <;> (simp only [List.length_cons, List.length_nil]; omega)))) (blkOk_by (N := ["left", "right", "shift", "found", "kind", "t"]) (sc := defScope s_law_sum) (by decide +kernel)) (by have := hk.1; omega) (fun _ _ _ _ _ => pg_name sc_law_sum.nd rfl (by first | exact Or.inl rfl | exact Or.inr rfl))) rfl sc_law_sum.nd))) (sum_row kind (1 + (left.length : Int)))) (by rw [List.length_append, List.length_append]; simp; omega) ?_)
      exact B.weak (b_nil rfl) (.same (.same (.same (.same (.un (.un .nil))))))
    · rintro _ rfl
      rw [List.take_length]
      exact b_cons (s_ret (e_read 3 rfl (imm_T (imm_T imm_I)) (e_tupL b.tuple (e_var 3))) (fun M v r => r))
end

open Classical in
noncomputable def lineP (kinds : List (List Int)) (ts : List Int) : List Bool := (List.range kinds.length).map fun b : Nat => decide ((b : Int) ∈ ts)
noncomputable def midP (kinds : List (List Int)) (m k : Nat) : List (List Bool) := (List.range kinds.length).map fun a => if a < k then rowP kinds (m + 1) a else rowP kinds m a
theorem lineP_set {kinds : List (List Int)} {ts : List Int} {t : Int} (h0 : 0 ≤ t) (h1 : t < kinds.length) : (lineP kinds ts).set t.toNat true = lineP kinds (ts ++ [t]) := by
  classical
  unfold lineP
  have e : (true : Bool) = (fun b : Nat => decide ((b : Int) ∈ ts ++ [t])) t.toNat := by
    symm; exact decide_eq_true (by rw [show ((t.toNat : Nat) : Int) = t by omega]; simp)
  rw [e]
  refine set_range (n := kinds.length) (k := t.toNat) (f := fun b : Nat => decide ((b : Int) ∈ ts)) (g := fun b : Nat => decide ((b : Int) ∈ ts ++ [t])) (by omega) fun i hi hne => ?_
  congr 1
  apply propext
  rw [List.mem_append, List.mem_singleton]
  exact ⟨fun h => h.elim id fun z => absurd z (by omega), .inl⟩
theorem lineP_neg {kinds : List (List Int)} {ts : List Int} {t : Int} (h0 : t < 0) : lineP kinds (ts ++ [t]) = lineP kinds ts := by
  classical
  unfold lineP
  apply List.map_congr_left
  intro b _
  congr 1
  apply propext
  rw [List.mem_append, List.mem_singleton]
  exact ⟨fun h => h.elim id fun z => absurd z (by omega), .inl⟩
theorem lineP_row (kinds : List (List Int)) (k : Nat) : lineP kinds (ix kinds (k : Int)) = rowP kinds 0 k := by
  classical
  unfold lineP rowP
  apply List.map_congr_left
  intro b _
  congr 1
  exact propext (Pth.zero (E := edge kinds) (a := k) (b := b)).symm
theorem midP_zero (kinds : List (List Int)) (m : Nat) : midP kinds m 0 = tabP kinds m := by
  unfold midP tabP
  apply List.map_congr_left
  intro a _
  rw [if_neg (Nat.not_lt_zero _)]
theorem midP_all (kinds : List (List Int)) (m : Nat) : midP kinds m kinds.length = tabP kinds (m + 1) := by
  unfold midP tabP
  apply List.map_congr_left
  intro a ha
  rw [if_pos (List.mem_range.mp ha)]
theorem rowP_self (kinds : List (List Int)) (m : Nat) : rowP kinds (m + 1) m = rowP kinds m m := by
  classical
  unfold rowP
  apply List.map_congr_left
  intro b _
  congr 1
  exact propext Pth.self
theorem midP_same {kinds : List (List Int)} {m k : Nat} (hk : k < kinds.length) (h : rowP kinds (m + 1) k = rowP kinds m k) : midP kinds m (k + 1) = midP kinds m k := by
  unfold midP
  apply List.map_congr_left
  intro a _
  by_cases z : a < k
  · rw [if_pos z, if_pos (by omega)]
  · by_cases y : a = k
    · subst y; rw [if_pos (by omega), if_neg (by omega), h]
    · rw [if_neg z, if_neg (by omega)]
theorem midP_set {kinds : List (List Int)} {m k : Nat} (hk : k < kinds.length) : (midP kinds m k).set k (rowP kinds (m + 1) k) = midP kinds m (k + 1) := by
  unfold midP
  have e : rowP kinds (m + 1) k = (fun a => if a < k + 1 then rowP kinds (m + 1) a else rowP kinds m a) k := by dsimp only; rw [if_pos (by omega)]
  rw [e]
  refine set_range (n := kinds.length) (k := k) (f := fun a => if a < k then rowP kinds (m + 1) a else rowP kinds m a) (g := fun a => if a < k + 1 then rowP kinds (m + 1) a else rowP kinds m a) hk fun i hi hne => ?_
  by_cases z : i < k
  · rw [if_pos z, if_pos (by omega)]
  · rw [if_neg z, if_neg (by omega)]
theorem midP_ix {kinds : List (List Int)} {m k a : Nat} (ha : a < kinds.length) : ix (midP kinds m k) (a : Int) = if a < k then rowP kinds (m + 1) a else rowP kinds m a := by
  unfold midP; rw [ix_range ha]
theorem midP_m {kinds : List (List Int)} {m k : Nat} (hm : m < kinds.length) : ix (midP kinds m k) (m : Int) = rowP kinds m m := by
  rw [midP_ix hm]; split
  · exact rowP_self kinds m
  · rfl
open Classical in
theorem rowP_ix {kinds : List (List Int)} {m a b : Nat} (hb : b < kinds.length) : ix (rowP kinds m a) (b : Int) = decide (Pth (edge kinds) m a b) := by
  unfold rowP; rw [ix_range hb]
theorem rowP_or {kinds : List (List Int)} {m k : Nat} (h : Pth (edge kinds) m k m) : ((List.range kinds.length).map fun j : Nat => ix (rowP kinds m k) (j : Int) || ix (rowP kinds m m) (j : Int)) = rowP kinds (m + 1) k := by
  classical
  unfold rowP
  apply List.map_congr_left
  intro j hj
  rw [ix_range (List.mem_range.mp hj), ix_range (List.mem_range.mp hj), ← Bool.decide_or]
  congr 1
  apply propext
  rw [Pth.succ]
  exact ⟨fun z => z.elim .inl fun y => .inr ⟨h, y⟩, fun z => z.elim .inl fun y => .inr y.2⟩
theorem rowP_no {kinds : List (List Int)} {m k : Nat} (h : ¬ Pth (edge kinds) m k m) : rowP kinds (m + 1) k = rowP kinds m k := by
  classical
  unfold rowP
  apply List.map_congr_left
  intro j _
  congr 1
  apply propext
  rw [Pth.succ]
  exact ⟨fun z => z.elim id fun y => absurd y.1 h, .inl⟩
noncomputable def spRT (K : Fg) : Sp := spG K (fun i : List (List Int) => [.vl (tTup (tTup tI)) i]) (fun i => Good i 1000 1000) (tLst (tLst tB)) (fun i => reachTab i)
section
variable {P : Program} {w : World} {K : Fg} {mg : Str → Option Value} {base : Heap}
theorem sc_law_reach : FnScope ["kinds", "many", "table", "k", "line", "target", "m", "j"] ["kinds"] (defScope s_law_reach) := ⟨rfl, rfl, rfl, by decide +kernel, rfl, by decide +kernel, by decide +kernel⟩
theorem ok_law_reach {f : Addr} {fd : FuncData} (F : Fun K "_law_reach" "_law_reach" s_law_reach f fd) (b : Bi mg) : FnOk P w K mg base CX0 1 f fd ["kinds"] (spRT K) := by
  classical
  refine fn_ok F sc_law_reach 7 rfl (fun _ => rfl) (fun cdv A outer s H E hr kinds hg => ?_)
  have hpos := hg.pos
  have hlen := hg.len
  refine b_cons (s_set 1 (e_lenT b.len (e_var 0)) ?_ sc_law_reach.nd)
  refine b_cons (s_own 2 (el_lst (s := tLst tB) eh_nil) ?_ sc_law_reach.nd)
  refine b_cons (s_forR 3 (fun k G' => G' = [.vl (tTup (tTup tI)) kinds, .vl tI (kinds.length : Int), .ow (tLst tB) ((List.range k).map (rowP kinds 0)), .un, .un, .un, .un, .un]) _ b.range (e_var 1) (by omega) (Sub.refl _) rfl ?_ ?_ sc_law_reach.nd rfl)
  · rintro k _ hk rfl
    have hrow := hg.row _ (ix_mem (xs := kinds) (i := (k : Int)) (by omega) (by omega))
    refine b_cons (s_own 4 (el_rep (EL.toE (el_lst (eh_cons e_bl eh_nil))) (e_var 1) (by omega) (by simp only [List.length_cons, List.length_nil]; omega)) ?_ sc_law_reach.nd)
    have el : (List.replicate (kinds.length : Int).toNat [false]).flatten = lineP kinds [] := by
      unfold lineP
      rw [Int.toNat_natCast]
      apply List.ext_getElem?
      intro i
      have : ∀ n : Nat, (List.replicate n [false]).flatten = List.replicate n false := fun n => by
        induction n with
        | zero => rfl
        | succ n ih => rw [List.replicate_succ, List.flatten_cons, ih]; rfl
      rw [this, List.getElem?_replicate, List.getElem?_map]
      by_cases z : i < kinds.length
      · rw [if_pos z, List.getElem?_range z]; simp
      · rw [if_neg z, List.getElem?_eq_none (by simp; omega)]; rfl
    rw [el]
    refine b_cons (s_forT 5 (fun j G' => G' = [.vl (tTup (tTup tI)) kinds, .vl tI (kinds.length : Int), .ow (tLst tB) ((List.range k).map (rowP kinds 0)), .vl tI (k : Int), .ow tB (lineP kinds ((ix kinds (k : Int)).take j)), .un, .un, .un]) _ (e_ixT (e_var 0) (e_var 3) (atI_ix (by omega) (by omega))) (Sub.refl _) rfl ?_ ?_ sc_law_reach.nd rfl)
    · rintro j t _ ht rfl
      rw [take_snoc ht]
      have htr := hrow.2 t (List.mem_of_getElem? ht)
      refine b_cut (fun G' => ∃ a, G' = [.vl (tTup (tTup tI)) kinds, .vl tI (kinds.length : Int), .ow (tLst tB) ((List.range k).map (rowP kinds 0)), .vl tI (k : Int), .ow tB (lineP kinds ((ix kinds (k : Int)).take j ++ [t])), a, .un, .un]) (s_if (t_cv (e_var 5) e_int cv_ge) (fun h => ?_) (fun h => ?_)) ?_
      · have h' : 0 ≤ t := of_decide_eq_true h
        rw [← lineP_set h' htr.2]
        refine b_cons (s_seti 4 (m := t.toNat) rfl e_bl (e_var 5) (ixNp h' (by unfold lineP; rw [List.length_map, List.length_range]; exact htr.2)) ?_)
        exact b_nil ⟨_, rfl⟩
      · have h' : ¬ 0 ≤ t := of_decide_eq_false h
        rw [lineP_neg (by omega)]
        exact b_nil ⟨_, rfl⟩
      rintro _ ⟨a, rfl⟩
      exact B.weak (b_nil rfl) (.same (.same (.same (.same (.same (.un (.un (.un .nil))))))))
    · rintro _ rfl
      rw [List.take_length, lineP_row]
      refine b_freeze 4 rfl ?_
      refine b_cons (s_app 2 rfl (e_var 4) (by simp; omega) ?_)
      refine B.weak (b_nil rfl) ?_
      rw [List.range_succ, List.map_append]
      exact .same (.same (.same (.un (.un (.un (.un (.un .nil)))))))
  · rintro _ rfl
    rw [Int.toNat_natCast]
    refine b_cons (s_forR 6 (fun m G' => G' = [.vl (tTup (tTup tI)) kinds, .vl tI (kinds.length : Int), .ow (tLst tB) (tabP kinds m), .un, .un, .un, .un, .un]) _ b.range (e_var 1) (by omega) (Sub.refl _) rfl ?_ ?_ sc_law_reach.nd rfl)
    · rintro m _ hm rfl
      refine b_cons (s_forR 3 (fun k G' => G' = [.vl (tTup (tTup tI)) kinds, .vl tI (kinds.length : Int), .ow (tLst tB) (midP kinds m k), .un, .un, .un, .vl tI (m : Int), .un]) _ b.range (e_var 1) (by omega) (Sub.refl _) (by rw [midP_zero]; rfl) ?_ ?_ sc_law_reach.nd rfl)
      · rintro k _ hk rfl
        have hk' : k < kinds.length := by omega
        have hm' : m < kinds.length := by omega
        have hml : (midP kinds m k).length = kinds.length := by unfold midP; simp
        have hkk : ix (midP kinds m k) (k : Int) = rowP kinds m k := by rw [midP_ix hk', if_neg (Nat.lt_irrefl _)]
        refine b_cut (fun G' => G' = [.vl (tTup (tTup tI)) kinds, .vl tI (kinds.length : Int), .ow (tLst tB) (midP kinds m (k + 1)), .vl tI (k : Int), .un, .un, .vl tI (m : Int), .un]) (s_if (t_read 2 rfl (t_val (e_ixL (e_ixL (e_var 2) (e_var 3) (atI_ix (by omega) (by omega))) (e_var 6) (atI_ix (by omega) (by rw [hkk, rowP_len]; omega))))) (fun h => ?_) (fun h => ?_)) ?_
        · rw [hkk, rowP_ix hm'] at h
          have h := of_decide_eq_true h
          rw [← midP_set hk', ← rowP_or h]
          refine b_cons (s_seti 2 (m := k) rfl (EL.toE (el_read 2 rfl imm_B (el_lc (lc_R (f := fun j : Nat => ix (rowP kinds m k) (j : Int) || ix (rowP kinds m m) (j : Int)) (own := [("j", 7)]) b.range (e_var 1) (by omega) 7 (fun s0 H C cl fp j hj => e_or (e_ixL (TL.E.is (e_ixL (e_var 2) (e_var 3) (atI_ix (by omega) (by omega))) hkk) (e_var 7) (atI_ix (by omega) (by rw [rowP_len]; omega))) (fun h => e_one (e_ixL (TL.E.is (e_ixL (e_var 2) (e_var 6) (atI_ix (by omega) (by omega))) (midP_m hm')) (e_var 7) (atI_ix (by omega) (by rw [rowP_len]; omega))))) (blkOk_by (N := ["kinds", "many", "table", "k", "line", "target", "m", "j"]) (sc := defScope s_law_reach) (by decide +kernel)) (fun _ _ _ _ _ => pg_name sc_law_reach.nd rfl (by first | exact Or.inl rfl | exact Or.inr rfl))) rfl sc_law_reach.nd))) (e_var 3) (by rw [ixNp (by omega) (by omega), Int.toNat_natCast]) ?_)
          exact b_nil rfl
        · rw [hkk, rowP_ix hm'] at h
          have h := of_decide_eq_false h
          rw [midP_same hk' (rowP_no h)]
          exact b_nil rfl
        rintro _ rfl
        exact B.weak (b_nil rfl) (.same (.same (.same (.un (.un (.un (.same (.un .nil))))))))
      · rintro _ rfl
        rw [Int.toNat_natCast, midP_all]
        exact B.weak (b_nil rfl) (.same (.same (.same (.un (.un (.un (.un (.un .nil))))))))
    · rintro _ rfl
      rw [Int.toNat_natCast]
      refine b_freeze 2 rfl ?_
      exact b_cons (s_ret (e_var 2) (fun M v r => r))
end

def sp_law_same_rowsT (K : Fg) : Sp := spG K (fun i : List (List Int) × List (List Int) => [.vl (tTup (tTup tI)) i.1, .vl (tTup (tTup tI)) i.2]) (fun i => i.1 = i.2 ∧ i.2.length ≤ 100000 ∧ ∀ r ∈ i.2, r.length ≤ 100000) tB (fun i => true)
def sp_law_same_rowsL (K : Fg) : Sp := spG K (fun i : List (List Int) × List (List Int) => [.vl (tTup (tTup tI)) i.1, .vl (tLst (tTup tI)) i.2]) (fun i => i.1 = i.2 ∧ i.2.length ≤ 100000 ∧ ∀ r ∈ i.2, r.length ≤ 100000) tB (fun i => true)
section
variable {P : Program} {w : World} {K : Fg} {mg : Str → Option Value} {base : Heap}
theorem sc_law_same_rows : FnScope ["told", "due", "k"] ["told", "due"] (defScope s_law_same_rows) := ⟨rfl, rfl, rfl, by decide +kernel, rfl, by decide +kernel, by decide +kernel⟩
theorem ok_law_same_rowsT {f : Addr} {fd : FuncData} (F : Fun K "_law_same_rows" "_law_same_rows" s_law_same_rows f fd) (b : Bi mg) (C_law_same_row : Fn P w K mg base CX0 2 "_law_same_row" ["told", "due"] (sp_law_same_rowT K)) : FnOk P w K mg base CX0 3 f fd ["told", "due"] (sp_law_same_rowsT K) := by
  refine fn_ok F sc_law_same_rows 1 rfl (fun _ => rfl) (fun cdv A outer s H E hr ⟨told, due⟩ hp => ?_)
  dsimp only at hp ⊢
  obtain ⟨rfl, hz, hrw⟩ := hp
  refine b_cons (s_if (TW.toT (w_or (t_not (t_val (e_isD (dd := dTab told) b.isinstance (e_var 0) (e_Ttuple b.tuple) (fun _ _ r => dp_tab r) (kbT _)))) (fun h => (w_or1 (t_cv (e_lenT b.len (e_var 0)) (e_lenT b.len (e_var 1)) cv_neI))))) (fun h1 => ?_) (fun h1 => ?_))
  · have h1p := h1; simp [isTD, dTab] at h1p
  · refine b_nil ?_
    refine b_cons (s_forR 2 (fun m G' => G' = [.vl (tTup (tTup tI)) told, .vl (tTup (tTup tI)) told, .un]) _ b.range (e_lenT b.len (e_var 1)) (by omega) (Sub.refl _) rfl ?_ ?_ sc_law_same_rows.nd rfl)
    · rintro m _ hm rfl
      have hrow := hrw _ (ix_mem (xs := told) (i := (m : Int)) (by omega) (by omega))
      refine b_cons (s_if (t_not (t_val (e_call C_law_same_row (hr.mono (by decide)) (ix told (m : Int), ix told (m : Int)) (ea_cons (e_ixT (e_var 0) (e_var 2) (atI_ix (by omega) (by omega))) (ea_cons (e_ixT (e_var 1) (e_var 2) (atI_ix (by omega) (by omega))) ea_nil)) (by refine ⟨rfl, ?_⟩; dsimp only; omega)))) (fun h2 => ?_) (fun h2 => ?_))
      · cases h2
      · exact b_nil (B.weak (b_nil rfl) (.same (.same (.un .nil))))
    · rintro _ rfl
      exact b_cons (s_ret e_bl (fun M v r => r))
theorem ok_law_same_rowsL {f : Addr} {fd : FuncData} (F : Fun K "_law_same_rows" "_law_same_rows" s_law_same_rows f fd) (b : Bi mg) (C_law_same_row : Fn P w K mg base CX0 2 "_law_same_row" ["told", "due"] (sp_law_same_rowT K)) : FnOk P w K mg base CX0 3 f fd ["told", "due"] (sp_law_same_rowsL K) := by
  refine fn_ok F sc_law_same_rows 1 rfl (fun _ => rfl) (fun cdv A outer s H E hr ⟨told, due⟩ hp => ?_)
  dsimp only at hp ⊢
  obtain ⟨rfl, hz, hrw⟩ := hp
  refine b_cons (s_if (TW.toT (w_or (t_not (t_val (e_isD (dd := dTab told) b.isinstance (e_var 0) (e_Ttuple b.tuple) (fun _ _ r => dp_tab r) (kbT _)))) (fun h => (w_or1 (t_cv (e_lenT b.len (e_var 0)) (e_lenL b.len (e_var 1)) cv_neI))))) (fun h1 => ?_) (fun h1 => ?_))
  · have h1p := h1; simp [isTD, dTab] at h1p
  · refine b_nil ?_
    refine b_cons (s_forR 2 (fun m G' => G' = [.vl (tTup (tTup tI)) told, .vl (tLst (tTup tI)) told, .un]) _ b.range (e_lenL b.len (e_var 1)) (by omega) (Sub.refl _) rfl ?_ ?_ sc_law_same_rows.nd rfl)
    · rintro m _ hm rfl
      have hrow := hrw _ (ix_mem (xs := told) (i := (m : Int)) (by omega) (by omega))
      refine b_cons (s_if (t_not (t_val (e_call C_law_same_row (hr.mono (by decide)) (ix told (m : Int), ix told (m : Int)) (ea_cons (e_ixT (e_var 0) (e_var 2) (atI_ix (by omega) (by omega))) (ea_cons (e_ixL (e_var 1) (e_var 2) (atI_ix (by omega) (by omega))) ea_nil)) (by refine ⟨rfl, ?_⟩; dsimp only; omega)))) (fun h2 => ?_) (fun h2 => ?_))
      · cases h2
      · exact b_nil (B.weak (b_nil rfl) (.same (.same (.un .nil))))
    · rintro _ rfl
      exact b_cons (s_ret e_bl (fun M v r => r))
end

def splaw (K : Fg) : Sp := spG K (fun i : List Int => [.vl (tSq tI) i]) (fun i => i.length ≤ 63) tB (fun _ => true)
def row9Sizes : List Int := (List.replicate 58 [40]).flatten
section
open PySem.Spec PyProof.Rows
theorem s_par {α β : Type} {X : Cx} {G : List Sl} {a b : Expr} {s : Ty α} {t : Ty β} {x : α} {y : β} {pos : Pos} {R : Out} (m1 m2 : Nat) {n1 n2 : Str} {q1 q2 q3 q4 : Pos} {k1 k2 : Nat} (ha : E X G a s x) (hb : E X G b t y) (h : R.nx ((G.set m1 (.vl s x)).set m2 (.vl t y))) (hN : X.N.Nodup) (hcm : X.calm = true) (hne : m1 ≠ m2 := by decide) (hi1 : X.N[m1]? = some n1 := by rfl) (hi2 : X.N[m2]? = some n2 := by rfl)
    (hx1 : X.env.scope.names.lookup n1 = some .local := by rfl) (hx2 : X.env.scope.names.lookup n2 = some .local := by rfl)
    (he : starEach [a, b] X.env = (false, eval a X.env) :: starEach [b] X.env := by rfl) (he2 : starEach [b] X.env = (false, eval b X.env) :: starEach [] X.env := by rfl)
    (hw : swappedStores [.Tuple [.Name n1 q1, .Name n2 q2] k1 q3] (.Tuple [a, b] k2 q4) X.env = pure (some [n1, n2]) := by rfl)
    (hs : swapsWithSole [.Tuple [.Name n1 q1, .Name n2 q2] k1 q3] (.Tuple [a, b] k2 q4) pos.line X.env = pure false := by rfl) :
    S1 X G (.Assign [.Tuple [.Name n1 q1, .Name n2 q2] k1 q3] (.Tuple [a, b] k2 q4) pos) R := ⟨fun D E S tk f =>
  ⟨_, ps_par hcm hN hi1 hi2 hne hx1 hx2 (pa_cons pe_w (pa_cons pe_w pa_nil he2) he) hw hs, ha.run S _ fun v M1 H1 n1 r1 => hb.run (S.next n1) _ fun w M2 H2 n2 r2 =>
    ⟨v, w, rfl, f.nx (((S.next (n1.trans n2)).set (s := .vl s x) (s.ext n2.vx r1)).set (s := .vl t y) r2) h⟩⟩⟩
end
theorem cut_mid {α : Type} (xs : List α) (a b : Int) (h0 : 0 ≤ a) (h1 : a ≤ b) (h2 : b ≤ xs.length) : (cut xs (some a) (some b)).length = (b - a).toNat := by
  unfold cut
  rw [List.length_take, List.length_drop]
  have e1 : HT.sIx xs.length 0 (some a) = min a.toNat xs.length := if_neg (by omega)
  have e2 : HT.sIx xs.length xs.length (some b) = min b.toNat xs.length := if_neg (by omega)
  rw [e1, e2]; omega
section
variable {P : Program} {w : World} {K : Fg} {mg : Str → Option Value} {base : Heap}
abbrev N9 : List Str := ["script", "kinds", "whole", "many", "reach", "row", "handed", "kind", "book", "double", "picks", "pairs", "k", "a", "b", "made"]
theorem sc_law : FnScope ["script", "kinds", "whole", "many", "reach", "row", "handed", "kind", "book", "double", "picks", "pairs", "k", "a", "b", "made"] ["script"] (defScope slaw) := ⟨rfl, rfl, rfl, by decide +kernel, rfl, by decide +kernel, by decide +kernel⟩
set_option maxHeartbeats 4000000 in
theorem oklaw {C CN : Addr} (hC : Cls K C) (hna : NoAttr K C "kinds") (XNoRound : XMk P w K mg base "NoRound" CN ["self", "kind"] (spNoRound K CN)) (hno : PySem.W.findIn K (.ref CN) "kind" = some none) {cE : Addr} (mE : mg "EndsError" = some (.ref cE)) (kE : PySem.W.kitOne K (.ref CN) (.ref cE) = some true)
    {f : Addr} {fd : FuncData} (F : Fun K "law" "law" slaw f fd) (b : Bi mg)
    (C_law_digits : Fn P w K mg base CX0 1 "_law_digits" ["cell", "sizes"] (sp_law_digits K)) (C_law_cell : Fn P w K mg base CX0 1 "_law_cell" ["script", "k"] (sp_law_cell K))
    (C_law_drawn : Fn P w K mg base CX0 3 "_law_drawn" ["script"] (sp_law_drawn K)) (CBook : Mkr P w K mg base 4 "Book" C ["self", "kinds"] (spBook__init__ K C)) (CAdd : AddC P w K mg base 6 C ["self", "other"] (spBook__add__ K C))
    (C_law_sum : Fn P w K mg base CX0 1 "_law_sum" ["left", "right"] (sp_law_sum K)) (C_law_reach : Fn P w K mg base CX0 1 "_law_reach" ["kinds"] (spRT K))
    (C_law_picked : Fn P w K mg base CX0 1 "_law_picked" ["many", "row"] (sp_law_picked K)) (C_law_pairs : Fn P w K mg base CX0 1 "_law_pairs" ["many", "row"] (sp_law_pairs K))
    (C_law_reaches_so : Fn P w K mg base CX0 4 "_law_reaches_so" ["book", "reach", "pairs"] (sp_law_reaches_so K C)) (C_law_rounds_so : Fn P w K mg base CX0 5 "_law_rounds_so" ["book", "kinds", "picks"] (sp_law_rounds_so K C))
    (C_law_whole : Fn P w K mg base CX0 1 "_law_whole" ["value"] (spWhole K)) (C_law_same_rowsT : Fn P w K mg base CX0 3 "_law_same_rows" ["told", "due"] (sp_law_same_rowsT K)) : FnOk P w K mg base CX0 8 f fd ["script"] (splaw K) := by
  refine fn_ok F sc_law 15 rfl (fun _ => rfl) (fun cdv A outer s H E hr script hp => ?_)
  have cell : ∀ k : Int, 0 ≤ k → k < 100 → (script.length ≤ 63 ∧ (0:Int) ≤ k ∧ k < 100) := fun k a c => ⟨hp, a, c⟩
  refine b_cons (s_setX 1 (ex_call (PR := fun y => Good y 40 20) C_law_drawn (hr.mono (by decide)) (EA.toX (ea_cons (e_var 0) ea_nil)) (fun ss hss => ⟨script, hss.symm, hp, fun y hy => hy⟩)) ?_ sc_law.nd)
  intro kinds hg
  have hpos := hg.pos
  have hlen := hg.len
  have hs := sum_good hg hg (by omega)
  have hsl : (sumM kinds kinds).length = 1 + kinds.length + kinds.length := by unfold sumM; rw [List.length_append, List.length_append, moved_len, moved_len]; simp
  have hfit : ∀ T : List (List Int), Good T 81 20 → (T.length ≤ 81 ∧ ∀ x ∈ T, x.length ≤ 20) := fun T g => ⟨by have := g.len; omega, fun x hx => by have := (g.row x hx).1; omega⟩
  have fa := hfit kinds (hg.mono (by omega) (by omega))
  have fs := hfit (sumM kinds kinds) (hs.mono (by omega) (by omega))
  have hrow : ∀ x ∈ kinds, x.length ≤ 1000000 := fun x hx => by have := fa.2 x hx; omega
  have h100 : Good kinds 100 100 ∧ Good kinds 100 100 := ⟨hg.mono (by omega) (by omega), hg.mono (by omega) (by omega)⟩
  have hg1 : Good kinds 1000 1000 := hg.mono (by omega) (by omega)
  have hs1 : Good (sumM kinds kinds) 1000 1000 := hs.mono (by omega) (by omega)
  refine b_cons (s_set 2 (e_call C_law_sum (hr.mono (by decide)) (kinds, kinds) (ea_cons (e_var 1) (ea_cons (e_var 1) ea_nil)) h100) ?_ sc_law.nd)
  refine b_cons (s_set 3 (e_lenT b.len (e_var 1)) ?_ sc_law.nd)
  refine b_cons (s_set 4 (e_call C_law_reach (hr.mono (by decide)) kinds (ea_cons (e_var 1) ea_nil) hg1) ?_ sc_law.nd)
  refine b_cons (s_set 5 (e_call C_law_digits (hr.mono (by decide)) (cellM script 3, row9Sizes) (ea_cons (e_call C_law_cell (hr.mono (by decide)) (script, 3) (ea_cons (e_var 0) (ea_cons e_int ea_nil)) (cell 3 (by omega) (by omega))) (ea_cons (EL.toE (el_rep (EL.toE (el_lst (eh_cons e_int eh_nil))) e_int (by decide) (by decide))) ea_nil)) (show row9Sizes.length ≤ 3000 ∧ ∀ s ∈ row9Sizes, 0 < s ∧ s < 1073741824 from by decide)) ?_ sc_law.nd)
  dsimp only
  have hrl := digits_len (cellM script 3) row9Sizes
  rw [show row9Sizes.length = 58 from by decide] at hrl
  generalize digitsM (cellM script 3) row9Sizes = row at hrl ⊢
  refine b_cons (s_lc 6 (lc_T (f := fun x : List Int => x) (xs := kinds) (own := [("kind", 7)]) (e_var 1) 7 (fun s0 H C cl fp m x hx => EL.toE (el_listT b.list (e_var 7))) (blkOk_by (N := N9) (sc := defScope slaw) (by decide +kernel)) (by omega) (fun _ _ _ _ _ => pg_name sc_law.nd rfl (by first | exact Or.inl rfl | exact Or.inr rfl))) ?_ rfl sc_law.nd)
  rw [List.map_id']
  refine b_freeze 6 rfl ?_
  refine b_cons (s_set 8 (TL.E.as (t := tBook C) (y := kinds) (e_mk CBook (hr.mono (by decide)) (dTabL kinds, kinds) (ea_cons (TL.E.as (t := tD) (y := dTabL kinds) (e_var 6) (fun _ _ r => dp_tabL r)) ea_nil) (show (Fit 2 (dTabL kinds) ∧ frz (dTabL kinds) = dTab kinds) ∧ Good kinds 1000 1000 from ⟨⟨fit_tabL (by omega) hrow, frz_dTabL kinds⟩, hg1⟩)) (fun _ _ r => r)) ?_ sc_law.nd)
  refine b_cons (s_set 9 (e_addOb CAdd (hr.mono (by decide)) (kinds, kinds) (e_var 8) (e_var 8) rfl h100) ?_ sc_law.nd)
  have c8 : (cut row none (some 8)).length ≤ 1000 := by rw [cut_upto _ (by decide), List.length_take]; omega
  have c48 : (cut row (some 8) (some 56)).length = 48 := (cut_mid row 8 56 (by omega) (by omega) (by omega)).trans rfl
  refine b_cons (s_set 10 (e_call C_law_picked (hr.mono (by decide)) ((kinds.length : Int), cut row none (some 8)) (ea_cons (e_var 3) (ea_cons (EL.toE (el_slice (e_var 5) eo_none (eo_some e_int))) ea_nil)) ⟨by dsimp only; omega, c8⟩) ?_ sc_law.nd)
  dsimp only
  have pin : inR kinds.length (pickedM (kinds.length : Int) (cut row none (some 8))) := picked_in (by omega)
  have pln : (pickedM (kinds.length : Int) (cut row none (some 8))).length ≤ 1000 := picked_len c8
  generalize pickedM (kinds.length : Int) (cut row none (some 8)) = picks at pin pln ⊢
  refine b_cons (s_setX 11 (ex_cat (ex_call (PR := fun y => PrsIn kinds.length y ∧ y.length ≤ 64) C_law_pairs (hr.mono (by decide)) (EA.toX (ea_cons (e_var 3) (ea_cons (EL.toE (el_slice (e_var 5) (eo_some e_int) (eo_some e_int))) ea_nil))) (fun ss hss => ⟨((kinds.length : Int), cut row (some 8) (some 56)), hss.symm, ⟨by dsimp only; omega, c48⟩, fun y hy => hy⟩))
    (EL.toE (el_lc (lc_L (f := fun k : Int => (k, k)) (xs := picks) (own := [("k", 12)]) (e_var 10) 12 (fun s0 H C cl fp m x hx => e_p2 (e_var 12) (e_var 12)) (blkOk_by (N := N9) (sc := defScope slaw) (by decide +kernel)) (by omega) (fun _ _ _ _ _ => pg_name sc_law.nd rfl (by first | exact Or.inl rfl | exact Or.inr rfl))) rfl sc_law.nd)) (fun xs hxs => by rw [List.length_map]; omega)) ?_ sc_law.nd)
  rintro pairs ⟨ps, ⟨hps, hpl⟩, hpe⟩
  have hpr : PrsIn kinds.length pairs := fun p hp => by
    rw [hpe] at hp
    rcases List.mem_append.mp hp with z | z
    · exact hps p z
    · obtain ⟨k, hk, rfl⟩ := List.mem_map.mp z
      exact ⟨pin k hk, pin k hk⟩
  clear hpe
  show B _ [.vl (tSq tI) script, .vl (tTup (tTup tI)) kinds, .vl (tTup (tTup tI)) (sumM kinds kinds), .vl tI (kinds.length : Int), .vl (tLst (tLst tB)) (reachTab kinds), .vl (tLst tI) row, .vl (tLst (tLst tI)) kinds, .un, .vl (tBook C) kinds, .vl (tBook C) (sumM kinds kinds), .vl (tLst tI) picks, .vl (tLst (tP2 tI tI)) pairs, .un, .un, .un, .un] _ _
  have hp2 : inR kinds.length (picks ++ cut picks none (some 2)) := fun t ht => by
    rcases List.mem_append.mp ht with z | z
    · exact pin t z
    · rw [cut_upto _ (by decide)] at z
      exact pin t (List.mem_of_mem_take z)
  have hp4 : PrsIn kinds.length (cut pairs none (some 4)) := fun p hp => by
    rw [cut_upto _ (by decide)] at hp
    exact hpr p (List.mem_of_mem_take hp)
  refine b_cons (s_if (TW.toT (w_or (t_not (t_val (e_call C_law_reaches_so (hr.mono (by decide)) (kinds, pairs) (ea_cons (e_var 8) (ea_cons (e_var 4) (ea_cons (e_var 11) ea_nil))) ⟨hg1, hpr⟩))) (fun _ => w_or1 (t_not (t_val (e_call C_law_rounds_so (hr.mono (by decide)) (kinds, picks ++ cut picks none (some 2)) (ea_cons (e_var 8) (ea_cons (e_var 1) (ea_cons (EL.toE (el_cat (e_var 10) (EL.toE (el_slice (e_var 10) eo_none (eo_some e_int))) (by rw [cut_upto _ (by decide), List.length_take]; omega))) ea_nil))) ⟨hg1, hp2⟩)))))) (fun h => by cases h) (fun _ => b_nil ?_))
  refine b_cons (s_par 13 14 (e_add e_int (e_mod (e_intI b.int (e_ixL (e_var 5) e_int (atI_ix (by omega) (by omega)))) (e_var 3) (by omega))) (e_add e_int (e_mod (e_intI b.int (e_ixL (e_var 5) e_int (atI_ix (by omega) (by omega)))) (e_var 3) (by omega))) ?_ sc_law.nd rfl)
  have a1 := Int.emod_nonneg (ix row 56) (show (kinds.length : Int) ≠ 0 by omega)
  have a2 := Int.emod_lt_of_pos (ix row 56) (show 0 < (kinds.length : Int) by omega)
  have b1 := Int.emod_nonneg (ix row 57) (show (kinds.length : Int) ≠ 0 by omega)
  have b2 := Int.emod_lt_of_pos (ix row 57) (show 0 < (kinds.length : Int) by omega)
  generalize ix row 56 % (kinds.length : Int) = u at a1 a2 ⊢
  generalize ix row 57 % (kinds.length : Int) = v at b1 b2 ⊢
  show B _ [.vl (tSq tI) script, .vl (tTup (tTup tI)) kinds, .vl (tTup (tTup tI)) (sumM kinds kinds), .vl tI (kinds.length : Int), .vl (tLst (tLst tB)) (reachTab kinds), .vl (tLst tI) row, .vl (tLst (tLst tI)) kinds, .un, .vl (tBook C) kinds, .vl (tBook C) (sumM kinds kinds), .vl (tLst tI) picks, .vl (tLst (tP2 tI tI)) pairs, .un, .vl tI (1 + u), .vl tI (1 + v), .un] _ _
  have hw : PrsIn (sumM kinds kinds).length [(1 + u, 1 + v), (1 + u, (kinds.length : Int) + (1 + v)), ((kinds.length : Int) + (1 + u), (kinds.length : Int) + (1 + v)), (0, (kinds.length : Int) + (1 + v))] := fun p hp => by
    simp only [List.mem_cons, List.not_mem_nil, or_false] at hp
    rcases hp with rfl | rfl | rfl | rfl <;> (dsimp only; omega)
  have hw2 : inR (sumM kinds kinds).length [0, 1 + u, (kinds.length : Int) + (1 + v)] := fun t ht => by
    simp only [List.mem_cons, List.not_mem_nil, or_false] at ht
    rcases ht with rfl | rfl | rfl <;> omega
  refine b_cons (s_if (t_not (t_val (e_call C_law_reaches_so (hr.mono (by decide)) (sumM kinds kinds, [(1 + u, 1 + v), (1 + u, (kinds.length : Int) + (1 + v)), ((kinds.length : Int) + (1 + u), (kinds.length : Int) + (1 + v)), (0, (kinds.length : Int) + (1 + v))]) (ea_cons (e_var 9) (ea_cons (e_call C_law_reach (hr.mono (by decide)) (sumM kinds kinds) (ea_cons (e_var 2) ea_nil) hs1) (ea_cons (EL.toE (el_lst (eh_cons (e_p2 (e_var 13) (e_var 14)) (eh_cons (e_p2 (e_var 13) (e_add (e_var 3) (e_var 14))) (eh_cons (e_p2 (e_add (e_var 3) (e_var 13)) (e_add (e_var 3) (e_var 14))) (eh_cons (e_p2 e_int (e_add (e_var 3) (e_var 14))) eh_nil)))))) ea_nil))) ⟨hs1, hw⟩))) (fun h => by cases h) (fun _ => b_nil ?_))
  refine b_cons (s_if (TW.toT (w_or (t_not (t_val (e_call C_law_rounds_so (hr.mono (by decide)) (sumM kinds kinds, [0, 1 + u, (kinds.length : Int) + (1 + v)]) (ea_cons (e_var 9) (ea_cons (e_var 2) (ea_cons (EL.toE (el_lst (eh_cons e_int (eh_cons (e_var 13) (eh_cons (e_add (e_var 3) (e_var 14)) eh_nil))))) ea_nil))) ⟨hs1, hw2⟩))) (fun _ => w_or1 (t_not (t_val (e_call C_law_reaches_so (hr.mono (by decide)) (kinds, cut pairs none (some 4)) (ea_cons (e_var 8) (ea_cons (e_var 4) (ea_cons (EL.toE (el_slice (e_var 11) eo_none (eo_some e_int))) ea_nil))) ⟨hg1, hp4⟩)))))) (fun h => by cases h) (fun _ => b_nil ?_))
  refine b_cons (s_set 15 (e_kept XNoRound (hr.mono (by decide)) (ix row 0) (ea_cons (e_ixL (e_var 5) e_int (atI_ix (by omega) (by omega))) ea_nil) trivial) ?_ sc_law.nd)
  have T := XNoRound.xc
  show B _ [.vl (tSq tI) script, .vl (tTup (tTup tI)) kinds, .vl (tTup (tTup tI)) (sumM kinds kinds), .vl tI (kinds.length : Int), .vl (tLst (tLst tB)) (reachTab kinds), .vl (tLst tI) row, .vl (tLst (tLst tI)) kinds, .un, .vl (tBook C) kinds, .vl (tBook C) (sumM kinds kinds), .vl (tLst tI) picks, .vl (tLst (tP2 tI tI)) pairs, .un, .vl tI (1 + u), .vl tI (1 + v), .vl (tXo CN ndFs) (ix row 0)] _ _
  refine b_cons (s_if (TW.toT (w_or (t_not (t_val (e_isV (fs := ndFs) (x := ix row 0) T b.isinstance (e_var 15) (e_cls mE) rel_ref kE))) (fun _ => w_or (t_not (t_val (e_call C_law_whole (hr.mono (by decide)) (.int (ix row 0)) (ea_cons (TL.E.as (s := tI) (x := ix row 0) (t := tD) (y := .int (ix row 0)) (e_xv (fs := ndFs) (x := ix row 0) (cl := ⟨tI, ix row 0⟩) T hno (e_var 15) rfl) (fun _ _ r => dp_I r)) ea_nil) trivial))) (fun _ => w_or1 (t_cv (e_xv (fs := ndFs) (x := ix row 0) (cl := ⟨tI, ix row 0⟩) T hno (e_var 15) rfl) (TL.E.is (x' := ix row 0) (e_ixL (s := tI) (xs := row) (i := 0) (x := ix row 0) (e_var 5) e_int (atI_ix (by omega) (by omega))) rfl) cv_neI))))) (fun h => ?_) (fun _ => b_nil ?_))
  · dsimp only at h
    rw [decide_eq_true rfl] at h
    cases h
  refine b_cons (s_if (TW.toT (w_or (t_not (t_val (e_call C_law_same_rowsT (hr.mono (by decide)) (kinds, kinds) (ea_cons (e_kinds (e_var 8) hC hna) (ea_cons (e_var 1) ea_nil)) (show kinds = kinds ∧ kinds.length ≤ 100000 ∧ ∀ r ∈ kinds, r.length ≤ 100000 from ⟨rfl, by omega, fun r hr => by have := fa.2 r hr; omega⟩)))) (fun _ => w_or1 (t_not (t_val (e_call C_law_same_rowsT (hr.mono (by decide)) (sumM kinds kinds, sumM kinds kinds) (ea_cons (e_kinds (e_var 9) hC hna) (ea_cons (e_var 2) ea_nil)) (show sumM kinds kinds = sumM kinds kinds ∧ (sumM kinds kinds).length ≤ 100000 ∧ ∀ r ∈ sumM kinds kinds, r.length ≤ 100000 from ⟨rfl, by omega, fun r hr => by have := fs.2 r hr; omega⟩))))))) (fun h => by cases h) (fun _ => b_nil ?_))
  refine b_cons (s_ret (e_and (e_cv (e_var 6) (TL.E.is (EL.toE (el_lc (lc_T (f := fun x : List Int => x) (xs := kinds) (own := [("kind", 7)]) (e_var 1) 7 (fun s0 H C cl fp m x hx => EL.toE (el_listT b.list (e_var 7))) (blkOk_by (N := N9) (sc := defScope slaw) (by decide +kernel)) (by omega) (fun _ _ _ _ _ => pg_name sc_law.nd rfl (by first | exact Or.inl rfl | exact Or.inr rfl))) rfl sc_law.nd)) (List.map_id' kinds)) (cv_eqD hr (sh_tabL kinds) (sh_tabL kinds) (fun _ _ r => dp_tabL r) (fun _ _ r => dp_tabL r))) (fun _ => e_one (e_call C_law_same_rowsT (hr.mono (by decide)) (kinds, kinds) (ea_cons (e_tupL b.tuple (TL.E.is (EL.toE (el_lc (lc_L (f := fun x : List Int => x) (xs := kinds) (own := [("kind", 7)]) (e_var 6) 7 (fun s0 H C cl fp m x hx => e_tupL b.tuple (e_var 7)) (blkOk_by (N := N9) (sc := defScope slaw) (by decide +kernel)) (by omega) (fun _ _ _ _ _ => pg_name sc_law.nd rfl (by first | exact Or.inl rfl | exact Or.inr rfl))) rfl sc_law.nd)) (List.map_id' kinds))) (ea_cons (e_var 1) ea_nil)) (show kinds = kinds ∧ kinds.length ≤ 100000 ∧ ∀ r ∈ kinds, r.length ≤ 100000 from ⟨rfl, by omega, fun r hr => by have := fa.2 r hr; omega⟩)))) (fun M v r => ret_is r ?_))
  rw [eqv_tabL, decide_eq_true rfl]; rfl
end

theorem all_mk {l : PySem.W.OpenLaw} {w : World} {K : PySem.W.Frag} {h : Heap} {mg : Str → Option Value} {fa ADBook ADNoRound ADBadBook ADBadDeed ADBadEnd ADBadLabel ADBadStep ADBadWay ADEndsError ADNotAnEnd ADUncountable f0 f1 f2 f3 f4 f5 f6 f7 f8 f9 f10 f11 f12 f13 f14 f15 f16 f17 f18 f19 f20 f21 f22 f23 f24 f25 f26 f27 f28 f29 f30 f31 f32 f33 f34 f35 f36 f37 f38 f39 f40 f41 f42  : Addr} (X : K.In h) (G : h.Ns mainGlobals mg) (hfa : mg "law" = some (.ref fa))
    {od0 an0 od1 an1 od2 an2 od3 an3 od4 an4 od5 an5 od6 an6 od7 an7 od8 an8 od9 an9 od10 an10 od11 an11 od12 an12 od13 an13 od14 an14 od15 an15 od16 an16 od17 an17 od18 an18 od19 an19 od20 an20 od21 an21 od22 an22 od23 an23 od24 an24 od25 an25 od26 an26 od27 an27 od28 an28 od29 an29 od30 an30 od31 an31 od32 an32 od33 an33 od34 an34 od35 an35 od36 an36 od37 an37 od38 an38 od39 an39 od40 an40 od41 an41 od42 an42 : Option Addr} {sl0 sl1 sl2 sl3 sl4 sl5 sl6 sl7 sl8 sl9 sl10 sl11 sl12 sl13 sl14 sl15 sl16 sl17 sl18 sl19 sl20 sl21 sl22 sl23 sl24 sl25 sl26 sl27 sl28 sl29 sl30 sl31 sl32 sl33 sl34 sl35 sl36 sl37 sl38 sl39 sl40 sl41 sl42 : Array (Option Value)} {oc0 dc0 pm0 cd0 ct0 kV0 oc1 dc1 pm1 cd1 ct1 kV1 oc2 dc2 pm2 cd2 ct2 kV2 oc3 dc3 pm3 cd3 ct3 kV3 oc4 dc4 pm4 cd4 ct4 kV4 oc5 dc5 pm5 cd5 ct5 kV5 oc6 dc6 pm6 cd6 ct6 kV6 oc7 dc7 pm7 cd7 ct7 kV7 oc8 dc8 pm8 cd8 ct8 kV8 oc9 dc9 pm9 cd9 ct9 kV9 oc10 dc10 pm10 cd10 ct10 kV10 oc11 dc11 pm11 cd11 ct11 kV11 oc12 dc12 pm12 cd12 ct12 kV12 oc13 dc13 pm13 cd13 ct13 kV13 oc14 dc14 pm14 cd14 ct14 kV14 oc15 dc15 pm15 cd15 ct15 kV15 oc16 dc16 pm16 cd16 ct16 kV16 oc17 dc17 pm17 cd17 ct17 kV17 oc18 dc18 pm18 cd18 ct18 kV18 oc19 dc19 pm19 cd19 ct19 kV19 oc20 dc20 pm20 cd20 ct20 kV20 oc21 dc21 pm21 cd21 ct21 kV21 oc22 dc22 pm22 cd22 ct22 kV22 oc23 dc23 pm23 cd23 ct23 kV23 oc24 dc24 pm24 cd24 ct24 kV24 oc25 dc25 pm25 cd25 ct25 kV25 oc26 dc26 pm26 cd26 ct26 kV26 oc27 dc27 pm27 cd27 ct27 kV27 oc28 dc28 pm28 cd28 ct28 kV28 oc29 dc29 pm29 cd29 ct29 kV29 oc30 dc30 pm30 cd30 ct30 kV30 oc31 dc31 pm31 cd31 ct31 kV31 oc32 dc32 pm32 cd32 ct32 kV32 oc33 dc33 pm33 cd33 ct33 kV33 oc34 dc34 pm34 cd34 ct34 kV34 oc35 dc35 pm35 cd35 ct35 kV35 oc36 dc36 pm36 cd36 ct36 kV36 oc37 dc37 pm37 cd37 ct37 kV37 oc38 dc38 pm38 cd38 ct38 kV38 oc39 dc39 pm39 cd39 ct39 kV39 oc40 dc40 pm40 cd40 ct40 kV40 oc41 dc41 pm41 cd41 ct41 kV41 oc42 dc42 pm42 cd42 ct42 kV42 : Value} {nmNoRound qNoRound : Str} {NNoRound : Addr} {bsNoRound bmNoRound subNoRound : List Value} {snNoRound : List Str} {abNoRound : Bool} {colNoRound : Option Bool} {ddNoRound : Option Addr} {kaNoRound kbNoRound kcNoRound kdNoRound keNoRound : Option Value} 
    (aDBook : PySem.W.nsIn K mainGlobals "Book" = some (some (.ref ADBook)))
    (aDNoRound : PySem.W.nsIn K mainGlobals "NoRound" = some (some (.ref ADNoRound)))
    (aDBadBook : PySem.W.nsIn K mainGlobals "BadBook" = some (some (.ref ADBadBook)))
    (aDBadDeed : PySem.W.nsIn K mainGlobals "BadDeed" = some (some (.ref ADBadDeed)))
    (aDBadEnd : PySem.W.nsIn K mainGlobals "BadEnd" = some (some (.ref ADBadEnd)))
    (aDBadLabel : PySem.W.nsIn K mainGlobals "BadLabel" = some (some (.ref ADBadLabel)))
    (aDBadStep : PySem.W.nsIn K mainGlobals "BadStep" = some (some (.ref ADBadStep)))
    (aDBadWay : PySem.W.nsIn K mainGlobals "BadWay" = some (some (.ref ADBadWay)))
    (aDEndsError : PySem.W.nsIn K mainGlobals "EndsError" = some (some (.ref ADEndsError)))
    (aDNotAnEnd : PySem.W.nsIn K mainGlobals "NotAnEnd" = some (some (.ref ADNotAnEnd)))
    (aDUncountable : PySem.W.nsIn K mainGlobals "Uncountable" = some (some (.ref ADUncountable)))
    (a0 : PySem.W.nsIn K mainGlobals "_law_broad" = some (some (.ref f0)))
    (l0 : K.lookup f0 = some ⟨oc0, od0, .func (PySem.W.fnOf "_law_broad" "_law_broad" (defArgs s_law_broad) (defBody s_law_broad) (defScope s_law_broad) .none kV0 dc0 pm0 an0 cd0 ct0), sl0⟩)
    (c0 : PySem.W.codeIn K cd0 "_law_broad" = true)
    (k0 : PySem.W.keepIn K (.ref f0) = true)
    (a1 : PySem.W.nsIn K mainGlobals "_law_tidy" = some (some (.ref f1)))
    (l1 : K.lookup f1 = some ⟨oc1, od1, .func (PySem.W.fnOf "_law_tidy" "_law_tidy" (defArgs s_law_tidy) (defBody s_law_tidy) (defScope s_law_tidy) .none kV1 dc1 pm1 an1 cd1 ct1), sl1⟩)
    (c1 : PySem.W.codeIn K cd1 "_law_tidy" = true)
    (k1 : PySem.W.keepIn K (.ref f1) = true)
    (a2 : PySem.W.nsIn K mainGlobals "_law_ring" = some (some (.ref f2)))
    (l2 : K.lookup f2 = some ⟨oc2, od2, .func (PySem.W.fnOf "_law_ring" "_law_ring" (defArgs s_law_ring) (defBody s_law_ring) (defScope s_law_ring) .none kV2 dc2 pm2 an2 cd2 ct2), sl2⟩)
    (c2 : PySem.W.codeIn K cd2 "_law_ring" = true)
    (k2 : PySem.W.keepIn K (.ref f2) = true)
    (a3 : PySem.W.nsIn K mainGlobals "_law_knit" = some (some (.ref f3)))
    (l3 : K.lookup f3 = some ⟨oc3, od3, .func (PySem.W.fnOf "_law_knit" "_law_knit" (defArgs s_law_knit) (defBody s_law_knit) (defScope s_law_knit) .none kV3 dc3 pm3 an3 cd3 ct3), sl3⟩)
    (c3 : PySem.W.codeIn K cd3 "_law_knit" = true)
    (k3 : PySem.W.keepIn K (.ref f3) = true)
    (a4 : PySem.W.nsIn K mainGlobals "_law_named" = some (some (.ref f4)))
    (l4 : K.lookup f4 = some ⟨oc4, od4, .func (PySem.W.fnOf "_law_named" "_law_named" (defArgs s_law_named) (defBody s_law_named) (defScope s_law_named) .none kV4 dc4 pm4 an4 cd4 ct4), sl4⟩)
    (c4 : PySem.W.codeIn K cd4 "_law_named" = true)
    (k4 : PySem.W.keepIn K (.ref f4) = true)
    (a5 : PySem.W.nsIn K mainGlobals "_law_renumbered" = some (some (.ref f5)))
    (l5 : K.lookup f5 = some ⟨oc5, od5, .func (PySem.W.fnOf "_law_renumbered" "_law_renumbered" (defArgs s_law_renumbered) (defBody s_law_renumbered) (defScope s_law_renumbered) .none kV5 dc5 pm5 an5 cd5 ct5), sl5⟩)
    (c5 : PySem.W.codeIn K cd5 "_law_renumbered" = true)
    (k5 : PySem.W.keepIn K (.ref f5) = true)
    (a6 : PySem.W.nsIn K mainGlobals "_law_cell" = some (some (.ref f6)))
    (l6 : K.lookup f6 = some ⟨oc6, od6, .func (PySem.W.fnOf "_law_cell" "_law_cell" (defArgs s_law_cell) (defBody s_law_cell) (defScope s_law_cell) .none kV6 dc6 pm6 an6 cd6 ct6), sl6⟩)
    (c6 : PySem.W.codeIn K cd6 "_law_cell" = true)
    (k6 : PySem.W.keepIn K (.ref f6) = true)
    (a7 : PySem.W.nsIn K mainGlobals "_law_target" = some (some (.ref f7)))
    (l7 : K.lookup f7 = some ⟨oc7, od7, .func (PySem.W.fnOf "_law_target" "_law_target" (defArgs s_law_target) (defBody s_law_target) (defScope s_law_target) .none kV7 dc7 pm7 an7 cd7 ct7), sl7⟩)
    (c7 : PySem.W.codeIn K cd7 "_law_target" = true)
    (k7 : PySem.W.keepIn K (.ref f7) = true)
    (a8 : PySem.W.nsIn K mainGlobals "_law_digits" = some (some (.ref f8)))
    (l8 : K.lookup f8 = some ⟨oc8, od8, .func (PySem.W.fnOf "_law_digits" "_law_digits" (defArgs s_law_digits) (defBody s_law_digits) (defScope s_law_digits) .none kV8 dc8 pm8 an8 cd8 ct8), sl8⟩)
    (c8 : PySem.W.codeIn K cd8 "_law_digits" = true)
    (k8 : PySem.W.keepIn K (.ref f8) = true)
    (a9 : PySem.W.nsIn K mainGlobals "_law_book_sizes" = some (some (.ref f9)))
    (l9 : K.lookup f9 = some ⟨oc9, od9, .func (PySem.W.fnOf "_law_book_sizes" "_law_book_sizes" (defArgs s_law_book_sizes) (defBody s_law_book_sizes) (defScope s_law_book_sizes) .none kV9 dc9 pm9 an9 cd9 ct9), sl9⟩)
    (c9 : PySem.W.codeIn K cd9 "_law_book_sizes" = true)
    (k9 : PySem.W.keepIn K (.ref f9) = true)
    (a10 : PySem.W.nsIn K mainGlobals "_law_book" = some (some (.ref f10)))
    (l10 : K.lookup f10 = some ⟨oc10, od10, .func (PySem.W.fnOf "_law_book" "_law_book" (defArgs s_law_book) (defBody s_law_book) (defScope s_law_book) .none kV10 dc10 pm10 an10 cd10 ct10), sl10⟩)
    (c10 : PySem.W.codeIn K cd10 "_law_book" = true)
    (k10 : PySem.W.keepIn K (.ref f10) = true)
    (a11 : PySem.W.nsIn K mainGlobals "_law_tower_target" = some (some (.ref f11)))
    (l11 : K.lookup f11 = some ⟨oc11, od11, .func (PySem.W.fnOf "_law_tower_target" "_law_tower_target" (defArgs s_law_tower_target) (defBody s_law_tower_target) (defScope s_law_tower_target) .none kV11 dc11 pm11 an11 cd11 ct11), sl11⟩)
    (c11 : PySem.W.codeIn K cd11 "_law_tower_target" = true)
    (k11 : PySem.W.keepIn K (.ref f11) = true)
    (a12 : PySem.W.nsIn K mainGlobals "_law_tower_sizes" = some (some (.ref f12)))
    (l12 : K.lookup f12 = some ⟨oc12, od12, .func (PySem.W.fnOf "_law_tower_sizes" "_law_tower_sizes" (defArgs s_law_tower_sizes) (defBody s_law_tower_sizes) (defScope s_law_tower_sizes) .none kV12 dc12 pm12 an12 cd12 ct12), sl12⟩)
    (c12 : PySem.W.codeIn K cd12 "_law_tower_sizes" = true)
    (k12 : PySem.W.keepIn K (.ref f12) = true)
    (a13 : PySem.W.nsIn K mainGlobals "_law_tower" = some (some (.ref f13)))
    (l13 : K.lookup f13 = some ⟨oc13, od13, .func (PySem.W.fnOf "_law_tower" "_law_tower" (defArgs s_law_tower) (defBody s_law_tower) (defScope s_law_tower) .none kV13 dc13 pm13 an13 cd13 ct13), sl13⟩)
    (c13 : PySem.W.codeIn K cd13 "_law_tower" = true)
    (k13 : PySem.W.keepIn K (.ref f13) = true)
    (a14 : PySem.W.nsIn K mainGlobals "_law_order" = some (some (.ref f14)))
    (l14 : K.lookup f14 = some ⟨oc14, od14, .func (PySem.W.fnOf "_law_order" "_law_order" (defArgs s_law_order) (defBody s_law_order) (defScope s_law_order) .none kV14 dc14 pm14 an14 cd14 ct14), sl14⟩)
    (c14 : PySem.W.codeIn K cd14 "_law_order" = true)
    (k14 : PySem.W.keepIn K (.ref f14) = true)
    (a15 : PySem.W.nsIn K mainGlobals "_law_twin" = some (some (.ref f15)))
    (l15 : K.lookup f15 = some ⟨oc15, od15, .func (PySem.W.fnOf "_law_twin" "_law_twin" (defArgs s_law_twin) (defBody s_law_twin) (defScope s_law_twin) .none kV15 dc15 pm15 an15 cd15 ct15), sl15⟩)
    (c15 : PySem.W.codeIn K cd15 "_law_twin" = true)
    (k15 : PySem.W.keepIn K (.ref f15) = true)
    (a16 : PySem.W.nsIn K mainGlobals "_law_drawn" = some (some (.ref f16)))
    (l16 : K.lookup f16 = some ⟨oc16, od16, .func (PySem.W.fnOf "_law_drawn" "_law_drawn" (defArgs s_law_drawn) (defBody s_law_drawn) (defScope s_law_drawn) .none kV16 dc16 pm16 an16 cd16 ct16), sl16⟩)
    (c16 : PySem.W.codeIn K cd16 "_law_drawn" = true)
    (k16 : PySem.W.keepIn K (.ref f16) = true)
    (a17 : PySem.W.nsIn K mainGlobals "reach_flags" = some (some (.ref f17)))
    (l17 : K.lookup f17 = some ⟨oc17, od17, .func (PySem.W.fnOf "reach_flags" "reach_flags" (defArgs sreach_flags) (defBody sreach_flags) (defScope sreach_flags) .none kV17 dc17 pm17 an17 cd17 ct17), sl17⟩)
    (c17 : PySem.W.codeIn K cd17 "reach_flags" = true)
    (k17 : PySem.W.keepIn K (.ref f17) = true)
    (a18 : PySem.W.nsIn K mainGlobals "reached_from" = some (some (.ref f18)))
    (l18 : K.lookup f18 = some ⟨oc18, od18, .func (PySem.W.fnOf "reached_from" "reached_from" (defArgs sreached_from) (defBody sreached_from) (defScope sreached_from) .none kV18 dc18 pm18 an18 cd18 ct18), sl18⟩)
    (c18 : PySem.W.codeIn K cd18 "reached_from" = true)
    (k18 : PySem.W.keepIn K (.ref f18) = true)
    (a19 : PySem.W.nsIn K mainGlobals "reaches" = some (some (.ref f19)))
    (l19 : K.lookup f19 = some ⟨oc19, od19, .func (PySem.W.fnOf "reaches" "reaches" (defArgs sreaches) (defBody sreaches) (defScope sreaches) .none kV19 dc19 pm19 an19 cd19 ct19), sl19⟩)
    (c19 : PySem.W.codeIn K cd19 "reaches" = true)
    (k19 : PySem.W.keepIn K (.ref f19) = true)
    (a20 : PySem.W.nsIn K mainGlobals "_law_flag" = some (some (.ref f20)))
    (l20 : K.lookup f20 = some ⟨oc20, od20, .func (PySem.W.fnOf "_law_flag" "_law_flag" (defArgs s_law_flag) (defBody s_law_flag) (defScope s_law_flag) .none kV20 dc20 pm20 an20 cd20 ct20), sl20⟩)
    (c20 : PySem.W.codeIn K cd20 "_law_flag" = true)
    (k20 : PySem.W.keepIn K (.ref f20) = true)
    (a21 : PySem.W.nsIn K mainGlobals "_law_pairs" = some (some (.ref f21)))
    (l21 : K.lookup f21 = some ⟨oc21, od21, .func (PySem.W.fnOf "_law_pairs" "_law_pairs" (defArgs s_law_pairs) (defBody s_law_pairs) (defScope s_law_pairs) .none kV21 dc21 pm21 an21 cd21 ct21), sl21⟩)
    (c21 : PySem.W.codeIn K cd21 "_law_pairs" = true)
    (k21 : PySem.W.keepIn K (.ref f21) = true)
    (a22 : PySem.W.nsIn K mainGlobals "_law_reaches_so" = some (some (.ref f22)))
    (l22 : K.lookup f22 = some ⟨oc22, od22, .func (PySem.W.fnOf "_law_reaches_so" "_law_reaches_so" (defArgs s_law_reaches_so) (defBody s_law_reaches_so) (defScope s_law_reaches_so) .none kV22 dc22 pm22 an22 cd22 ct22), sl22⟩)
    (c22 : PySem.W.codeIn K cd22 "_law_reaches_so" = true)
    (k22 : PySem.W.keepIn K (.ref f22) = true)
    (a23 : PySem.W.nsIn K mainGlobals "_law_steps_to" = some (some (.ref f23)))
    (l23 : K.lookup f23 = some ⟨oc23, od23, .func (PySem.W.fnOf "_law_steps_to" "_law_steps_to" (defArgs s_law_steps_to) (defBody s_law_steps_to) (defScope s_law_steps_to) .none kV23 dc23 pm23 an23 cd23 ct23), sl23⟩)
    (c23 : PySem.W.codeIn K cd23 "_law_steps_to" = true)
    (k23 : PySem.W.keepIn K (.ref f23) = true)
    (a24 : PySem.W.nsIn K mainGlobals "_law_round" = some (some (.ref f24)))
    (l24 : K.lookup f24 = some ⟨oc24, od24, .func (PySem.W.fnOf "_law_round" "_law_round" (defArgs s_law_round) (defBody s_law_round) (defScope s_law_round) .none kV24 dc24 pm24 an24 cd24 ct24), sl24⟩)
    (c24 : PySem.W.codeIn K cd24 "_law_round" = true)
    (k24 : PySem.W.keepIn K (.ref f24) = true)
    (a25 : PySem.W.findIn K (.ref ADNoRound) "__init__" = some (some (.ref f25)))
    (t25 : PySem.W.typeIn K (.ref f25) = some (.type "function"))
    (l25 : K.lookup f25 = some ⟨oc25, od25, .func (PySem.W.fnOf "__init__" "NoRound.__init__" (defArgs sNoRound__init__) (defBody sNoRound__init__) (defScope sNoRound__init__) .none kV25 dc25 pm25 an25 cd25 ct25), sl25⟩)
    (c25 : PySem.W.codeIn K cd25 "NoRound.__init__" = true)
    (k25 : PySem.W.keepIn K (.ref f25) = true)
    (a26 : PySem.W.nsIn K mainGlobals "round_of" = some (some (.ref f26)))
    (l26 : K.lookup f26 = some ⟨oc26, od26, .func (PySem.W.fnOf "round_of" "round_of" (defArgs sround_of) (defBody sround_of) (defScope sround_of) .none kV26 dc26 pm26 an26 cd26 ct26), sl26⟩)
    (c26 : PySem.W.codeIn K cd26 "round_of" = true)
    (k26 : PySem.W.keepIn K (.ref f26) = true)
    (a27 : PySem.W.nsIn K mainGlobals "_law_of_others" = some (some (.ref f27)))
    (l27 : K.lookup f27 = some ⟨oc27, od27, .func (PySem.W.fnOf "_law_of_others" "_law_of_others" (defArgs s_law_of_others) (defBody s_law_of_others) (defScope s_law_of_others) .none kV27 dc27 pm27 an27 cd27 ct27), sl27⟩)
    (c27 : PySem.W.codeIn K cd27 "_law_of_others" = true)
    (k27 : PySem.W.keepIn K (.ref f27) = true)
    (a28 : PySem.W.nsIn K mainGlobals "_law_whole" = some (some (.ref f28)))
    (l28 : K.lookup f28 = some ⟨oc28, od28, .func (PySem.W.fnOf "_law_whole" "_law_whole" (defArgs s_law_whole) (defBody s_law_whole) (defScope s_law_whole) .none kV28 dc28 pm28 an28 cd28 ct28), sl28⟩)
    (c28 : PySem.W.codeIn K cd28 "_law_whole" = true)
    (k28 : PySem.W.keepIn K (.ref f28) = true)
    (a29 : PySem.W.nsIn K mainGlobals "_law_asked_round" = some (some (.ref f29)))
    (l29 : K.lookup f29 = some ⟨oc29, od29, .func (PySem.W.fnOf "_law_asked_round" "_law_asked_round" (defArgs s_law_asked_round) (defBody s_law_asked_round) (defScope s_law_asked_round) .none kV29 dc29 pm29 an29 cd29 ct29), sl29⟩)
    (c29 : PySem.W.codeIn K cd29 "_law_asked_round" = true)
    (k29 : PySem.W.keepIn K (.ref f29) = true)
    (a30 : PySem.W.nsIn K mainGlobals "_law_same_row" = some (some (.ref f30)))
    (l30 : K.lookup f30 = some ⟨oc30, od30, .func (PySem.W.fnOf "_law_same_row" "_law_same_row" (defArgs s_law_same_row) (defBody s_law_same_row) (defScope s_law_same_row) .none kV30 dc30 pm30 an30 cd30 ct30), sl30⟩)
    (c30 : PySem.W.codeIn K cd30 "_law_same_row" = true)
    (k30 : PySem.W.keepIn K (.ref f30) = true)
    (a31 : PySem.W.nsIn K mainGlobals "_law_rounds_so" = some (some (.ref f31)))
    (l31 : K.lookup f31 = some ⟨oc31, od31, .func (PySem.W.fnOf "_law_rounds_so" "_law_rounds_so" (defArgs s_law_rounds_so) (defBody s_law_rounds_so) (defScope s_law_rounds_so) .none kV31 dc31 pm31 an31 cd31 ct31), sl31⟩)
    (c31 : PySem.W.codeIn K cd31 "_law_rounds_so" = true)
    (k31 : PySem.W.keepIn K (.ref f31) = true)
    (a32 : PySem.W.nsIn K mainGlobals "_law_picked" = some (some (.ref f32)))
    (l32 : K.lookup f32 = some ⟨oc32, od32, .func (PySem.W.fnOf "_law_picked" "_law_picked" (defArgs s_law_picked) (defBody s_law_picked) (defScope s_law_picked) .none kV32 dc32 pm32 an32 cd32 ct32), sl32⟩)
    (c32 : PySem.W.codeIn K cd32 "_law_picked" = true)
    (k32 : PySem.W.keepIn K (.ref f32) = true)
    (a33 : PySem.W.nsIn K mainGlobals "frozen" = some (some (.ref f33)))
    (l33 : K.lookup f33 = some ⟨oc33, od33, .func (PySem.W.fnOf "frozen" "frozen" (defArgs sfrozen) (defBody sfrozen) (defScope sfrozen) .none kV33 dc33 pm33 an33 cd33 ct33), sl33⟩)
    (c33 : PySem.W.codeIn K cd33 "frozen" = true)
    (k33 : PySem.W.keepIn K (.ref f33) = true)
    (a34 : PySem.W.nsIn K mainGlobals "is_whole" = some (some (.ref f34)))
    (l34 : K.lookup f34 = some ⟨oc34, od34, .func (PySem.W.fnOf "is_whole" "is_whole" (defArgs sis_whole) (defBody sis_whole) (defScope sis_whole) .none kV34 dc34 pm34 an34 cd34 ct34), sl34⟩)
    (c34 : PySem.W.codeIn K cd34 "is_whole" = true)
    (k34 : PySem.W.keepIn K (.ref f34) = true)
    (a35 : PySem.W.nsIn K mainGlobals "is_target" = some (some (.ref f35)))
    (l35 : K.lookup f35 = some ⟨oc35, od35, .func (PySem.W.fnOf "is_target" "is_target" (defArgs sis_target) (defBody sis_target) (defScope sis_target) .none kV35 dc35 pm35 an35 cd35 ct35), sl35⟩)
    (c35 : PySem.W.codeIn K cd35 "is_target" = true)
    (k35 : PySem.W.keepIn K (.ref f35) = true)
    (a36 : PySem.W.findIn K (.ref ADBook) "__init__" = some (some (.ref f36)))
    (i36 : PySem.W.isFn K (.ref f36) = true)
    (l36 : K.lookup f36 = some ⟨oc36, od36, .func (PySem.W.fnOf "__init__" "Book.__init__" (defArgs sBook__init__) (defBody sBook__init__) (defScope sBook__init__) .none kV36 dc36 pm36 an36 cd36 ct36), sl36⟩)
    (c36 : PySem.W.codeIn K cd36 "Book.__init__" = true)
    (k36 : PySem.W.keepIn K (.ref f36) = true)
    (a37 : PySem.W.nsIn K mainGlobals "moved_kinds" = some (some (.ref f37)))
    (l37 : K.lookup f37 = some ⟨oc37, od37, .func (PySem.W.fnOf "moved_kinds" "moved_kinds" (defArgs smoved_kinds) (defBody smoved_kinds) (defScope smoved_kinds) .none kV37 dc37 pm37 an37 cd37 ct37), sl37⟩)
    (c37 : PySem.W.codeIn K cd37 "moved_kinds" = true)
    (k37 : PySem.W.keepIn K (.ref f37) = true)
    (a38 : PySem.W.findIn K (.ref ADBook) "__add__" = some (some (.ref f38)))
    (i38 : PySem.W.isFn K (.ref f38) = true)
    (l38 : K.lookup f38 = some ⟨oc38, od38, .func (PySem.W.fnOf "__add__" "Book.__add__" (defArgs sBook__add__) (defBody sBook__add__) (defScope sBook__add__) .none kV38 dc38 pm38 an38 cd38 ct38), sl38⟩)
    (c38 : PySem.W.codeIn K cd38 "Book.__add__" = true)
    (k38 : PySem.W.keepIn K (.ref f38) = true)
    (a39 : PySem.W.nsIn K mainGlobals "_law_sum" = some (some (.ref f39)))
    (l39 : K.lookup f39 = some ⟨oc39, od39, .func (PySem.W.fnOf "_law_sum" "_law_sum" (defArgs s_law_sum) (defBody s_law_sum) (defScope s_law_sum) .none kV39 dc39 pm39 an39 cd39 ct39), sl39⟩)
    (c39 : PySem.W.codeIn K cd39 "_law_sum" = true)
    (k39 : PySem.W.keepIn K (.ref f39) = true)
    (a40 : PySem.W.nsIn K mainGlobals "_law_reach" = some (some (.ref f40)))
    (l40 : K.lookup f40 = some ⟨oc40, od40, .func (PySem.W.fnOf "_law_reach" "_law_reach" (defArgs s_law_reach) (defBody s_law_reach) (defScope s_law_reach) .none kV40 dc40 pm40 an40 cd40 ct40), sl40⟩)
    (c40 : PySem.W.codeIn K cd40 "_law_reach" = true)
    (k40 : PySem.W.keepIn K (.ref f40) = true)
    (a41 : PySem.W.nsIn K mainGlobals "_law_same_rows" = some (some (.ref f41)))
    (l41 : K.lookup f41 = some ⟨oc41, od41, .func (PySem.W.fnOf "_law_same_rows" "_law_same_rows" (defArgs s_law_same_rows) (defBody s_law_same_rows) (defScope s_law_same_rows) .none kV41 dc41 pm41 an41 cd41 ct41), sl41⟩)
    (c41 : PySem.W.codeIn K cd41 "_law_same_rows" = true)
    (k41 : PySem.W.keepIn K (.ref f41) = true)
    (a42 : PySem.W.nsIn K mainGlobals "law" = some (some (.ref f42)))
    (l42 : K.lookup f42 = some ⟨oc42, od42, .func (PySem.W.fnOf "law" "law" (defArgs slaw) (defBody slaw) (defScope slaw) .none kV42 dc42 pm42 an42 cd42 ct42), sl42⟩)
    (c42 : PySem.W.codeIn K cd42 "law" = true)
    (k42 : PySem.W.keepIn K (.ref f42) = true)
    (lxNoRound : K.lookup ADNoRound = some (excClassObj nmNoRound qNoRound ADNoRound NNoRound bsNoRound bmNoRound true snNoRound subNoRound abNoRound colNoRound ddNoRound kaNoRound kbNoRound kcNoRound kdNoRound keNoRound "ValueError.__new__"))
    (rvNoRound : PySem.HandSPX.refsVE bmNoRound = true)
    (sxNoRound : PySem.W.findIn K (.ref ADNoRound) "__setattr__" = some (some (.builtin "object.__setattr__")))
    (ebNoRound : PySem.W.subIn K (.ref ADNoRound) (.type "BaseException") = some true)
    (tyNoRound : PySem.W.typeIn K (.ref ADNoRound) = some (.type "type"))
    (kkNoRound : PySem.W.keepIn K (.ref ADNoRound) = true)
    (gaNoRound : PySem.W.findIn K (.ref ADNoRound) "__getattribute__" = some (some (.builtin "BaseException.__getattribute__")))
    (ggNoRound : PySem.W.findIn K (.ref ADNoRound) "__getattr__" = some none)
    (hdNoRound : PySem.W.hasDictIn K ADNoRound = true)
    (xaNoRound : PySem.W.findIn K (.ref ADNoRound) "__class__" = some (some (.builtin "object.__class__")))
    (xnNoRound : PySem.W.specialIn K (.builtin "object.__class__") "__get__" = some (some (.builtin "getset_descriptor.__get__")))
    (xtNoRound : PySem.W.takesIn K (.builtin "object.__class__") = some true)
    (xmNoRound : PySem.W.mroIn K ADNoRound (.type "object") = some true)
    (ssNoRound : PySem.W.subIn K (.ref ADNoRound) (.ref ADNoRound) = some true)
    (svNoRound : PySem.W.subIn K (.ref ADNoRound) (.type "ValueError") = some true)
    (nxNoRound_kind : PySem.W.findIn K (.ref ADNoRound) "kind" = some none)
    (sbNoRound_BadBook : PySem.W.subIn K (.ref ADNoRound) (.ref ADBadBook) = some false)
    (neNoRound_BadBook : ADNoRound ≠ ADBadBook)
    (sbNoRound_BadWay : PySem.W.subIn K (.ref ADNoRound) (.ref ADBadWay) = some false)
    (neNoRound_BadWay : ADNoRound ≠ ADBadWay)
    (sbNoRound_BadEnd : PySem.W.subIn K (.ref ADNoRound) (.ref ADBadEnd) = some false)
    (neNoRound_BadEnd : ADNoRound ≠ ADBadEnd)
    (sbNoRound_NotAnEnd : PySem.W.subIn K (.ref ADNoRound) (.ref ADNotAnEnd) = some false)
    (neNoRound_NotAnEnd : ADNoRound ≠ ADNotAnEnd)
    (sbNoRound_BadLabel : PySem.W.subIn K (.ref ADNoRound) (.ref ADBadLabel) = some false)
    (neNoRound_BadLabel : ADNoRound ≠ ADBadLabel)
    (sbNoRound_BadStep : PySem.W.subIn K (.ref ADNoRound) (.ref ADBadStep) = some false)
    (neNoRound_BadStep : ADNoRound ≠ ADBadStep)
    (sbNoRound_BadDeed : PySem.W.subIn K (.ref ADNoRound) (.ref ADBadDeed) = some false)
    (neNoRound_BadDeed : ADNoRound ≠ ADBadDeed)
    (sbNoRound_Uncountable : PySem.W.subIn K (.ref ADNoRound) (.ref ADUncountable) = some false)
    (neNoRound_Uncountable : ADNoRound ≠ ADUncountable)
    (sbNoRound_EndsError : PySem.W.subIn K (.ref ADNoRound) (.ref ADEndsError) = some true)
    (hdBadBook : PySem.W.hasDictIn K ADBadBook = true)
    (tyBadBook : PySem.W.typeIn K (.ref ADBadBook) = some (.type "type"))
    (hdBadDeed : PySem.W.hasDictIn K ADBadDeed = true)
    (tyBadDeed : PySem.W.typeIn K (.ref ADBadDeed) = some (.type "type"))
    (hdBadEnd : PySem.W.hasDictIn K ADBadEnd = true)
    (tyBadEnd : PySem.W.typeIn K (.ref ADBadEnd) = some (.type "type"))
    (hdBadLabel : PySem.W.hasDictIn K ADBadLabel = true)
    (tyBadLabel : PySem.W.typeIn K (.ref ADBadLabel) = some (.type "type"))
    (hdBadStep : PySem.W.hasDictIn K ADBadStep = true)
    (tyBadStep : PySem.W.typeIn K (.ref ADBadStep) = some (.type "type"))
    (hdBadWay : PySem.W.hasDictIn K ADBadWay = true)
    (tyBadWay : PySem.W.typeIn K (.ref ADBadWay) = some (.type "type"))
    (hdEndsError : PySem.W.hasDictIn K ADEndsError = true)
    (tyEndsError : PySem.W.typeIn K (.ref ADEndsError) = some (.type "type"))
    (hdNotAnEnd : PySem.W.hasDictIn K ADNotAnEnd = true)
    (tyNotAnEnd : PySem.W.typeIn K (.ref ADNotAnEnd) = some (.type "type"))
    (hdUncountable : PySem.W.hasDictIn K ADUncountable = true)
    (tyUncountable : PySem.W.typeIn K (.ref ADUncountable) = some (.type "type"))
    (pgBook : PySem.W.plainGet K ADBook Str.empty = true)
    (hdBook : PySem.W.hasDictIn K ADBook = true)
    (poBook : PySem.W.plainOver K ADBook = true)
    (saBook : PySem.W.findIn K (.ref ADBook) "__setattr__" = some (some (.builtin "object.__setattr__")))
    (mkBook : PySem.W.makesIn K ADBook = true)
    (kcBook : PySem.W.keepIn K (.ref ADBook) = true)
    (sfBook : PySem.W.selfFirst K ADBook = true)
    (naBook_kinds : PySem.W.findIn K (.ref ADBook) "kinds" = some none)
    (z_len : PySem.W.nsIn K mainGlobals "len" = some none)
    (z_int : PySem.W.nsIn K mainGlobals "int" = some none)
    (z_min : PySem.W.nsIn K mainGlobals "min" = some none)
    (z_max : PySem.W.nsIn K mainGlobals "max" = some none)
    (z_range : PySem.W.nsIn K mainGlobals "range" = some none)
    (z_list : PySem.W.nsIn K mainGlobals "list" = some none)
    (z_tuple : PySem.W.nsIn K mainGlobals "tuple" = some none)
    (z_isinstance : PySem.W.nsIn K mainGlobals "isinstance" = some none)
    (z_str : PySem.W.nsIn K mainGlobals "str" = some none)
    (z_bool : PySem.W.nsIn K mainGlobals "bool" = some none)
    (z_sum : PySem.W.nsIn K mainGlobals "sum" = some none)
    (z_sorted : PySem.W.nsIn K mainGlobals "sorted" = some none)
    (z_repr : PySem.W.nsIn K mainGlobals "repr" = some none)
    (z_iter : PySem.W.nsIn K mainGlobals "iter" = some none)
    (z_enumerate : PySem.W.nsIn K mainGlobals "enumerate" = some none)
    (z_zip : PySem.W.nsIn K mainGlobals "zip" = some none)
    (z_reversed : PySem.W.nsIn K mainGlobals "reversed" = some none)
    (z_any : PySem.W.nsIn K mainGlobals "any" = some none)
    (z_all : PySem.W.nsIn K mainGlobals "all" = some none)
    (z_abs : PySem.W.nsIn K mainGlobals "abs" = some none)
    (z_set : PySem.W.nsIn K mainGlobals "set" = some none)
    (z_dict : PySem.W.nsIn K mainGlobals "dict" = some none)
    (z_ValueError : PySem.W.nsIn K mainGlobals "ValueError" = some none) :
    ∃ fd : FuncData, (∀ (s : Shared) (v : Value), BindsTo s fd ⟨[v], []⟩ [("script", v)]) ∧ ∀ base : Heap, K.In base → base.Ns mainGlobals mg → FnOk l.prog w K mg base CX0 8 fa fd ["script"] (splaw K) := by
  have e := hfa.symm.trans (PySem.W.mg_of X G a42)
  cases e
  have b : Bi mg := ⟨PySem.W.mg_none_of X G z_len, PySem.W.mg_none_of X G z_int, PySem.W.mg_none_of X G z_min, PySem.W.mg_none_of X G z_max, PySem.W.mg_none_of X G z_range, PySem.W.mg_none_of X G z_list, PySem.W.mg_none_of X G z_tuple, PySem.W.mg_none_of X G z_isinstance, PySem.W.mg_none_of X G z_str, PySem.W.mg_none_of X G z_bool, PySem.W.mg_none_of X G z_sum, PySem.W.mg_none_of X G z_sorted, PySem.W.mg_none_of X G z_repr, PySem.W.mg_none_of X G z_iter, PySem.W.mg_none_of X G z_enumerate, PySem.W.mg_none_of X G z_zip, PySem.W.mg_none_of X G z_reversed, PySem.W.mg_none_of X G z_any, PySem.W.mg_none_of X G z_all, PySem.W.mg_none_of X G z_abs, PySem.W.mg_none_of X G z_set, PySem.W.mg_none_of X G z_dict, PySem.W.mg_none_of X G z_ValueError⟩
  have xcNoRound : XCls K ADNoRound := ⟨⟨⟨_, _, _, _, _, _, _, _, _, _, _, _, _, _, _, lxNoRound, rvNoRound⟩, sxNoRound, ebNoRound, tyNoRound, kkNoRound⟩, ⟨gaNoRound, ggNoRound, ebNoRound, hdNoRound⟩, xaNoRound, xnNoRound, xtNoRound, xmNoRound⟩
  have clsBook : Cls K ADBook := ⟨pgBook, hdBook, poBook, saBook⟩
  have F0 := fun_mk (st := s_law_broad) l0 c0 k0
  have b0 := F0.binds (ps := ["kinds", "row", "limit"]) fun _ _ _ _ _ _ us hl => match us, hl with | [_, _, _], _ => rfl
  have F1 := fun_mk (st := s_law_tidy) l1 c1 k1
  have b1 := F1.binds (ps := ["kinds"]) fun _ _ _ _ _ _ us hl => match us, hl with | [_], _ => rfl
  have F2 := fun_mk (st := s_law_ring) l2 c2 k2
  have b2 := F2.binds (ps := ["kinds", "first", "last", "place"]) fun _ _ _ _ _ _ us hl => match us, hl with | [_, _, _, _], _ => rfl
  have F3 := fun_mk (st := s_law_knit) l3 c3 k3
  have b3 := F3.binds (ps := ["kinds", "row"]) fun _ _ _ _ _ _ us hl => match us, hl with | [_, _], _ => rfl
  have F4 := fun_mk (st := s_law_named) l4 c4 k4
  have b4 := F4.binds (ps := ["t", "place"]) fun _ _ _ _ _ _ us hl => match us, hl with | [_, _], _ => rfl
  have F5 := fun_mk (st := s_law_renumbered) l5 c5 k5
  have b5 := F5.binds (ps := ["kinds", "order"]) fun _ _ _ _ _ _ us hl => match us, hl with | [_, _], _ => rfl
  have F6 := fun_mk (st := s_law_cell) l6 c6 k6
  have b6 := F6.binds (ps := ["script", "k"]) fun _ _ _ _ _ _ us hl => match us, hl with | [_, _], _ => rfl
  have F7 := fun_mk (st := s_law_target) l7 c7 k7
  have b7 := F7.binds (ps := ["digit", "k", "many", "j"]) fun _ _ _ _ _ _ us hl => match us, hl with | [_, _, _, _], _ => rfl
  have F8 := fun_mk (st := s_law_digits) l8 c8 k8
  have b8 := F8.binds (ps := ["cell", "sizes"]) fun _ _ _ _ _ _ us hl => match us, hl with | [_, _], _ => rfl
  have F9 := fun_mk (st := s_law_book_sizes) l9 c9 k9
  have b9 := F9.binds (ps := ["n", "e"]) fun _ _ _ _ _ _ us hl => match us, hl with | [_, _], _ => rfl
  have F10 := fun_mk (st := s_law_book) l10 c10 k10
  have b10 := F10.binds (ps := ["row", "n", "e"]) fun _ _ _ _ _ _ us hl => match us, hl with | [_, _, _], _ => rfl
  have F11 := fun_mk (st := s_law_tower_target) l11 c11 k11
  have b11 := F11.binds (ps := ["digit", "k", "many"]) fun _ _ _ _ _ _ us hl => match us, hl with | [_, _, _], _ => rfl
  have F12 := fun_mk (st := s_law_tower_sizes) l12 c12 k12
  have b12 := F12.binds (ps := ["n", "e"]) fun _ _ _ _ _ _ us hl => match us, hl with | [_, _], _ => rfl
  have F13 := fun_mk (st := s_law_tower) l13 c13 k13
  have b13 := F13.binds (ps := ["row", "n", "e"]) fun _ _ _ _ _ _ us hl => match us, hl with | [_, _, _], _ => rfl
  have F14 := fun_mk (st := s_law_order) l14 c14 k14
  have b14 := F14.binds (ps := ["row", "many"]) fun _ _ _ _ _ _ us hl => match us, hl with | [_, _], _ => rfl
  have F15 := fun_mk (st := s_law_twin) l15 c15 k15
  have b15 := F15.binds (ps := ["kinds", "c", "place"]) fun _ _ _ _ _ _ us hl => match us, hl with | [_, _, _], _ => rfl
  have F16 := fun_mk (st := s_law_drawn) l16 c16 k16
  have b16 := F16.binds (ps := ["script"]) fun _ _ _ _ _ _ us hl => match us, hl with | [_], _ => rfl
  have F17 := fun_mk (st := sreach_flags) l17 c17 k17
  have b17 := F17.binds (ps := ["kinds", "kind"]) fun _ _ _ _ _ _ us hl => match us, hl with | [_, _], _ => rfl
  have F18 := fun_mk (st := sreached_from) l18 c18 k18
  have b18 := F18.binds (ps := ["kinds", "kind"]) fun _ _ _ _ _ _ us hl => match us, hl with | [_, _], _ => rfl
  have F19 := fun_mk (st := sreaches) l19 c19 k19
  have b19 := F19.binds (ps := ["book", "kind", "other"]) fun _ _ _ _ _ _ us hl => match us, hl with | [_, _, _], _ => rfl
  have F20 := fun_mk (st := s_law_flag) l20 c20 k20
  have b20 := F20.binds (ps := ["told", "due"]) fun _ _ _ _ _ _ us hl => match us, hl with | [_, _], _ => rfl
  have F21 := fun_mk (st := s_law_pairs) l21 c21 k21
  have b21 := F21.binds (ps := ["many", "row"]) fun _ _ _ _ _ _ us hl => match us, hl with | [_, _], _ => rfl
  have F22 := fun_mk (st := s_law_reaches_so) l22 c22 k22
  have b22 := F22.binds (ps := ["book", "reach", "pairs"]) fun _ _ _ _ _ _ us hl => match us, hl with | [_, _, _], _ => rfl
  have F23 := fun_mk (st := s_law_steps_to) l23 c23 k23
  have b23 := F23.binds (ps := ["kinds", "k"]) fun _ _ _ _ _ _ us hl => match us, hl with | [_, _], _ => rfl
  have F24 := fun_mk (st := s_law_round) l24 c24 k24
  have b24 := F24.binds (ps := ["kinds", "k"]) fun _ _ _ _ _ _ us hl => match us, hl with | [_, _], _ => rfl
  have F25 := fun_mk (st := sNoRound__init__) l25 c25 k25
  have b25 := F25.binds (ps := ["self", "kind"]) fun _ _ _ _ _ _ us hl => match us, hl with | [_, _], _ => rfl
  have F26 := fun_mk (st := sround_of) l26 c26 k26
  have b26 := F26.binds (ps := ["book", "kind"]) fun _ _ _ _ _ _ us hl => match us, hl with | [_, _], _ => rfl
  have F27 := fun_mk (st := s_law_of_others) l27 c27 k27
  have b27 := F27.binds (ps := ["e"]) fun _ _ _ _ _ _ us hl => match us, hl with | [_], _ => rfl
  have F28 := fun_mk (st := s_law_whole) l28 c28 k28
  have b28 := F28.binds (ps := ["value"]) fun _ _ _ _ _ _ us hl => match us, hl with | [_], _ => rfl
  have F29 := fun_mk (st := s_law_asked_round) l29 c29 k29
  have b29 := F29.binds (ps := ["book", "k"]) fun _ _ _ _ _ _ us hl => match us, hl with | [_, _], _ => rfl
  have F30 := fun_mk (st := s_law_same_row) l30 c30 k30
  have b30 := F30.binds (ps := ["told", "due"]) fun _ _ _ _ _ _ us hl => match us, hl with | [_, _], _ => rfl
  have F31 := fun_mk (st := s_law_rounds_so) l31 c31 k31
  have b31 := F31.binds (ps := ["book", "kinds", "picks"]) fun _ _ _ _ _ _ us hl => match us, hl with | [_, _, _], _ => rfl
  have F32 := fun_mk (st := s_law_picked) l32 c32 k32
  have b32 := F32.binds (ps := ["many", "row"]) fun _ _ _ _ _ _ us hl => match us, hl with | [_, _], _ => rfl
  have F33 := fun_mk (st := sfrozen) l33 c33 k33
  have b33 := F33.binds (ps := ["value"]) fun _ _ _ _ _ _ us hl => match us, hl with | [_], _ => rfl
  have F34 := fun_mk (st := sis_whole) l34 c34 k34
  have b34 := F34.binds (ps := ["value"]) fun _ _ _ _ _ _ us hl => match us, hl with | [_], _ => rfl
  have F35 := fun_mk (st := sis_target) l35 c35 k35
  have b35 := F35.binds (ps := ["value", "many"]) fun _ _ _ _ _ _ us hl => match us, hl with | [_, _], _ => rfl
  have F36 := fun_mk (st := sBook__init__) l36 c36 k36
  have b36 := F36.binds (ps := ["self", "kinds"]) fun _ _ _ _ _ _ us hl => match us, hl with | [_, _], _ => rfl
  have F37 := fun_mk (st := smoved_kinds) l37 c37 k37
  have b37 := F37.binds (ps := ["kinds", "amount"]) fun _ _ _ _ _ _ us hl => match us, hl with | [_, _], _ => rfl
  have F38 := fun_mk (st := sBook__add__) l38 c38 k38
  have b38 := F38.binds (ps := ["self", "other"]) fun _ _ _ _ _ _ us hl => match us, hl with | [_, _], _ => rfl
  have F39 := fun_mk (st := s_law_sum) l39 c39 k39
  have b39 := F39.binds (ps := ["left", "right"]) fun _ _ _ _ _ _ us hl => match us, hl with | [_, _], _ => rfl
  have F40 := fun_mk (st := s_law_reach) l40 c40 k40
  have b40 := F40.binds (ps := ["kinds"]) fun _ _ _ _ _ _ us hl => match us, hl with | [_], _ => rfl
  have F41 := fun_mk (st := s_law_same_rows) l41 c41 k41
  have b41 := F41.binds (ps := ["told", "due"]) fun _ _ _ _ _ _ us hl => match us, hl with | [_, _], _ => rfl
  have F42 := fun_mk (st := slaw) l42 c42 k42
  refine ⟨PySem.W.fnOf "law" "law" (defArgs slaw) (defBody slaw) (defScope slaw) .none kV42 dc42 pm42 an42 cd42 ct42, fun s v => .of_eq rfl, fun base _ _ => ?_⟩
  have C_law_broad : Fn l.prog w K mg base CX0 1 "_law_broad" ["kinds", "row", "limit"] (sp_law_broad K) := fn_in X G a0 F0 b0 (ok_law_broad F0 b)
  have C_law_tidy : Fn l.prog w K mg base CX0 1 "_law_tidy" ["kinds"] (sp_law_tidy K) := fn_in X G a1 F1 b1 (ok_law_tidy F1 b)
  have C_law_ring : Fn l.prog w K mg base CX0 1 "_law_ring" ["kinds", "first", "last", "place"] (sp_law_ring K) := fn_in X G a2 F2 b2 (ok_law_ring F2 b)
  have C_law_knit : Fn l.prog w K mg base CX0 2 "_law_knit" ["kinds", "row"] (sp_law_knit K) := fn_in X G a3 F3 b3 (ok_law_knit F3 b C_law_tidy C_law_ring)
  have C_law_named : Fn l.prog w K mg base CX0 1 "_law_named" ["t", "place"] (sp_law_named K) := fn_in X G a4 F4 b4 (ok_law_named F4 b)
  have C_law_renumbered : Fn l.prog w K mg base CX0 2 "_law_renumbered" ["kinds", "order"] (sp_law_renumbered K) := fn_in X G a5 F5 b5 (ok_law_renumbered F5 b C_law_named)
  have C_law_cell : Fn l.prog w K mg base CX0 1 "_law_cell" ["script", "k"] (sp_law_cell K) := fn_in X G a6 F6 b6 (ok_law_cell F6 b)
  have C_law_target : Fn l.prog w K mg base CX0 1 "_law_target" ["digit", "k", "many", "j"] (sp_law_target K) := fn_in X G a7 F7 b7 (ok_law_target F7 b)
  have C_law_digits : Fn l.prog w K mg base CX0 1 "_law_digits" ["cell", "sizes"] (sp_law_digits K) := fn_in X G a8 F8 b8 (ok_law_digits F8 b)
  have C_law_book_sizes : Fn l.prog w K mg base CX0 1 "_law_book_sizes" ["n", "e"] (sp_law_book_sizes K) := fn_in X G a9 F9 b9 (ok_law_book_sizes F9 b)
  have C_law_book : Fn l.prog w K mg base CX0 2 "_law_book" ["row", "n", "e"] (sp_law_book K) := fn_in X G a10 F10 b10 (ok_law_book F10 b C_law_target)
  have C_law_tower_target : Fn l.prog w K mg base CX0 1 "_law_tower_target" ["digit", "k", "many"] (sp_law_tower_target K) := fn_in X G a11 F11 b11 (ok_law_tower_target F11 b)
  have C_law_tower_sizes : Fn l.prog w K mg base CX0 1 "_law_tower_sizes" ["n", "e"] (sp_law_tower_sizes K) := fn_in X G a12 F12 b12 (ok_law_tower_sizes F12 b)
  have C_law_tower : Fn l.prog w K mg base CX0 2 "_law_tower" ["row", "n", "e"] (sp_law_tower K) := fn_in X G a13 F13 b13 (ok_law_tower F13 b C_law_tower_target)
  have C_law_order : Fn l.prog w K mg base CX0 1 "_law_order" ["row", "many"] (sp_law_order K) := fn_in X G a14 F14 b14 (ok_law_order F14 b)
  have C_law_twin : Fn l.prog w K mg base CX0 1 "_law_twin" ["kinds", "c", "place"] (sp_law_twin K) := fn_in X G a15 F15 b15 (ok_law_twin F15 b)
  have C_law_drawn : Fn l.prog w K mg base CX0 3 "_law_drawn" ["script"] (sp_law_drawn K) := fn_in X G a16 F16 b16 (ok_law_drawn F16 b C_law_digits C_law_cell C_law_book_sizes C_law_book C_law_tower_sizes C_law_tower C_law_broad C_law_knit C_law_twin C_law_order C_law_renumbered)
  have Creach_flags : Fn l.prog w K mg base CX0 1 "reach_flags" ["kinds", "kind"] (spreach_flags K) := fn_in X G a17 F17 b17 (okreach_flags F17 b)
  have Creached_from : Fn l.prog w K mg base CX0 2 "reached_from" ["kinds", "kind"] (spreached_from K) := fn_in X G a18 F18 b18 (okreached_from F18 b Creach_flags)
  have Creaches : Fn l.prog w K mg base CX0 3 "reaches" ["book", "kind", "other"] (spreaches K ADBook) := fn_in X G a19 F19 b19 (okreaches clsBook naBook_kinds F19 b Creached_from)
  have C_law_flag : Fn l.prog w K mg base CX0 1 "_law_flag" ["told", "due"] (sp_law_flag K) := fn_in X G a20 F20 b20 (ok_law_flag F20 b)
  have C_law_pairs : Fn l.prog w K mg base CX0 1 "_law_pairs" ["many", "row"] (sp_law_pairs K) := fn_in X G a21 F21 b21 (ok_law_pairs F21 b)
  have C_law_reaches_so : Fn l.prog w K mg base CX0 4 "_law_reaches_so" ["book", "reach", "pairs"] (sp_law_reaches_so K ADBook) := fn_in X G a22 F22 b22 (ok_law_reaches_so F22 b C_law_flag Creaches)
  have C_law_steps_to : Fn l.prog w K mg base CX0 1 "_law_steps_to" ["kinds", "k"] (sp_law_steps_to K) := fn_in X G a23 F23 b23 (ok_law_steps_to F23 b)
  have C_law_round : Fn l.prog w K mg base CX0 2 "_law_round" ["kinds", "k"] (sp_law_round K) := fn_in X G a24 F24 b24 (ok_law_round F24 b C_law_steps_to)
  have XNoRound : XMk l.prog w K mg base "NoRound" ADNoRound ["self", "kind"] (spNoRound K ADNoRound) := ⟨⟨f25, _, a25, t25, okNoRound__init__ xcNoRound nxNoRound_kind F25, PySem.W.mg_of X G aDNoRound, b25⟩, xcNoRound⟩
  have Cround_of : Fn l.prog w K mg base (L2N.CX l.prog w) 3 "round_of" ["book", "kind"] (spround_of K ADBook ADNoRound) := ⟨f26, _, PySem.W.mg_of X G a26, F26.kp, b26, okround_of clsBook naBook_kinds XNoRound F26 b⟩
  have Ch_law_of_others : FnP l.prog w K mg base 1 "_law_of_others" ["e"] (sp_law_of_others K ADNoRound) := ⟨f27, _, PySem.W.mg_of X G a27, F27.kp, b27, okh_law_of_others xcNoRound ⟨ADBadBook, PySem.W.mg_of X G aDBadBook, TL.kit_sub sbNoRound_BadBook hdBadBook tyBadBook (.inl neNoRound_BadBook)⟩ ⟨ADBadWay, PySem.W.mg_of X G aDBadWay, TL.kit_sub sbNoRound_BadWay hdBadWay tyBadWay (.inl neNoRound_BadWay)⟩ ⟨ADBadEnd, PySem.W.mg_of X G aDBadEnd, TL.kit_sub sbNoRound_BadEnd hdBadEnd tyBadEnd (.inl neNoRound_BadEnd)⟩ ⟨ADNotAnEnd, PySem.W.mg_of X G aDNotAnEnd, TL.kit_sub sbNoRound_NotAnEnd hdNotAnEnd tyNotAnEnd (.inl neNoRound_NotAnEnd)⟩ ⟨ADBadLabel, PySem.W.mg_of X G aDBadLabel, TL.kit_sub sbNoRound_BadLabel hdBadLabel tyBadLabel (.inl neNoRound_BadLabel)⟩ ⟨ADBadStep, PySem.W.mg_of X G aDBadStep, TL.kit_sub sbNoRound_BadStep hdBadStep tyBadStep (.inl neNoRound_BadStep)⟩ ⟨ADBadDeed, PySem.W.mg_of X G aDBadDeed, TL.kit_sub sbNoRound_BadDeed hdBadDeed tyBadDeed (.inl neNoRound_BadDeed)⟩ ⟨ADUncountable, PySem.W.mg_of X G aDUncountable, TL.kit_sub sbNoRound_Uncountable hdUncountable tyUncountable (.inl neNoRound_Uncountable)⟩ F27 b⟩
  have C_law_whole : Fn l.prog w K mg base CX0 1 "_law_whole" ["value"] (spWhole K) := fn_in X G a28 F28 b28 (ok_law_whole F28 b)
  have Ch_law_whole : FnP l.prog w K mg base 1 "_law_whole" ["value"] (fun _ => spWhole K) := ⟨f28, _, PySem.W.mg_of X G a28, F28.kp, b28, okh_law_whole F28 b⟩
  have C_law_asked_round : Fn l.prog w K mg base CX0 4 "_law_asked_round" ["book", "k"] (sp_law_asked_round K ADBook) := fn_in X G a29 F29 b29 (ok_law_asked_round xcNoRound nxNoRound_kind (PySem.W.mg_of X G aDNoRound) (PySem.W.exm_ref ebNoRound hdNoRound tyNoRound ssNoRound) (PySem.W.mg_of X G aDEndsError) (TL.kit_sub sbNoRound_EndsError hdEndsError tyEndsError (.inr rfl)) (TL.kit_subT svNoRound (by decide +kernel)) F29 b Cround_of Ch_law_of_others Ch_law_whole)
  have C_law_same_rowT : Fn l.prog w K mg base CX0 2 "_law_same_row" ["told", "due"] (sp_law_same_rowT K) := fn_in X G a30 F30 b30 (ok_law_same_rowT F30 b C_law_whole)
  have C_law_same_rowL : Fn l.prog w K mg base CX0 2 "_law_same_row" ["told", "due"] (sp_law_same_rowL K) := fn_in X G a30 F30 b30 (ok_law_same_rowL F30 b C_law_whole)
  have C_law_rounds_so : Fn l.prog w K mg base CX0 5 "_law_rounds_so" ["book", "kinds", "picks"] (sp_law_rounds_so K ADBook) := fn_in X G a31 F31 b31 (ok_law_rounds_so F31 b C_law_round C_law_asked_round C_law_same_rowT)
  have C_law_picked : Fn l.prog w K mg base CX0 1 "_law_picked" ["many", "row"] (sp_law_picked K) := fn_in X G a32 F32 b32 (ok_law_picked F32 b)
  have Cfrozen : Fn l.prog w K mg base CX0 3 "frozen" ["value"] (spFz K 2) := fn_in X G a33 F33 b33 (Ea.ok_frozen F33 b (PySem.W.mg_of X G a33) b33 2)
  have Cis_whole : Fn l.prog w K mg base CX0 1 "is_whole" ["value"] (spWhole K) := fn_in X G a34 F34 b34 (okis_whole F34 b)
  have Cis_target : Fn l.prog w K mg base CX0 2 "is_target" ["value", "many"] (spis_target K) := fn_in X G a35 F35 b35 (okis_target F35 b Cis_whole)
  have CBook : Mkr l.prog w K mg base 4 "Book" ADBook ["self", "kinds"] (spBook__init__ K ADBook) := ⟨f36, _, ⟨mkBook, a36, i36, kcBook⟩, okBook__init__ clsBook naBook_kinds F36 b Cfrozen Cis_target, PySem.W.mg_of X G aDBook, b36⟩
  have Cmoved_kinds : Fn l.prog w K mg base CX0 1 "moved_kinds" ["kinds", "amount"] (spmoved_kinds K) := fn_in X G a37 F37 b37 (okmoved_kinds F37 b)
  have CAdd : AddC l.prog w K mg base 6 ADBook ["self", "other"] (spBook__add__ K ADBook) := ⟨f38, _, sfBook, a38, i38, b38, okBook__add__ clsBook naBook_kinds F38 b CBook Cmoved_kinds⟩
  have C_law_sum : Fn l.prog w K mg base CX0 1 "_law_sum" ["left", "right"] (sp_law_sum K) := fn_in X G a39 F39 b39 (ok_law_sum F39 b)
  have C_law_reach : Fn l.prog w K mg base CX0 1 "_law_reach" ["kinds"] (spRT K) := fn_in X G a40 F40 b40 (ok_law_reach F40 b)
  have C_law_same_rowsT : Fn l.prog w K mg base CX0 3 "_law_same_rows" ["told", "due"] (sp_law_same_rowsT K) := fn_in X G a41 F41 b41 (ok_law_same_rowsT F41 b C_law_same_rowT)
  have C_law_same_rowsL : Fn l.prog w K mg base CX0 3 "_law_same_rows" ["told", "due"] (sp_law_same_rowsL K) := fn_in X G a41 F41 b41 (ok_law_same_rowsL F41 b C_law_same_rowT)
  exact oklaw clsBook naBook_kinds XNoRound nxNoRound_kind (PySem.W.mg_of X G aDEndsError) (TL.kit_sub sbNoRound_EndsError hdEndsError tyEndsError (.inr rfl)) F42 b C_law_digits C_law_cell C_law_drawn CBook CAdd C_law_sum C_law_reach C_law_picked C_law_pairs C_law_reaches_so C_law_rounds_so C_law_whole C_law_same_rowsT
theorem walk {l : PySem.W.OpenLaw} {q : Program} {loose : List Str} {XP : (Str → Option Value) → Heap → Prop} {YP : World → Heap → Prop} {d : DefRec} {K : Params → PySem.W.Frag} (hn : l.most = some 63) (hdf : d.params.defaults = [])
    (hY : ∀ (w : World) (h : Heap), YP w h → (K w.params).In h)
    (F : ∀ (w : World) (mg : Str → Option Value) (fa : Addr) (h : Heap), (K w.params).In h → h.Ns mainGlobals mg → mg d.name = some (.ref fa) →
      ∃ fd : FuncData, (∀ (s : Shared) (u : Value), BindsTo s fd ⟨[u], []⟩ [("script", u)]) ∧ ∀ base : Heap, (K w.params).In base → base.Ns mainGlobals mg → FnOk l.prog w (K w.params) mg base CX0 8 fa fd ["script"] (splaw (K w.params))) :
    PySem.W.WalkO q loose XP YP l.row.toRowW d [] (fun f vs => PySem.call f vs) :=
  L2.walk_of (n := 63) (k := 8) (x := "script") (CX := fun _ => CX0) (sp := fun w => splaw (K w.params)) hn (by decide) hdf ⟨rfl, by decide, by decide⟩ hY F (fun w H a ns hl m hS => law_sp hl hS) fun _ _ _ _ _ z => z
end Ea

open PySem PySem.W PyProof.Rows in
set_option maxRecDepth 100000 in
set_option maxHeartbeats 0 in
theorem PySem.Challenge.cw_endsalike_k09_rounds_and_reach_holds : PySem.Challenge.rw_endsalike_k09_rounds_and_reach.Holds := by
  w_on; o_law; k_head; (case hw => w_witness2)
  k_fill
  refine Ea.walk (l := PySem.Challenge.rw_endsalike_k09_rounds_and_reach) rfl rfl (fun w h Y => PySem.W.kIn_of Y) ?F
  case F =>
    intro w mg fa h KX G hmg
    refine' Ea.all_mk KX G hmg ?aDBook ?aDNoRound ?aDBadBook ?aDBadDeed ?aDBadEnd ?aDBadLabel ?aDBadStep ?aDBadWay ?aDEndsError ?aDNotAnEnd ?aDUncountable ?a0 ?l0 ?c0 ?k0 ?a1 ?l1 ?c1 ?k1 ?a2 ?l2 ?c2 ?k2 ?a3 ?l3 ?c3 ?k3 ?a4 ?l4 ?c4 ?k4 ?a5 ?l5 ?c5 ?k5 ?a6 ?l6 ?c6 ?k6 ?a7 ?l7 ?c7 ?k7 ?a8 ?l8 ?c8 ?k8 ?a9 ?l9 ?c9 ?k9 ?a10 ?l10 ?c10 ?k10 ?a11 ?l11 ?c11 ?k11 ?a12 ?l12 ?c12 ?k12 ?a13 ?l13 ?c13 ?k13 ?a14 ?l14 ?c14 ?k14 ?a15 ?l15 ?c15 ?k15 ?a16 ?l16 ?c16 ?k16 ?a17 ?l17 ?c17 ?k17 ?a18 ?l18 ?c18 ?k18 ?a19 ?l19 ?c19 ?k19 ?a20 ?l20 ?c20 ?k20 ?a21 ?l21 ?c21 ?k21 ?a22 ?l22 ?c22 ?k22 ?a23 ?l23 ?c23 ?k23 ?a24 ?l24 ?c24 ?k24 ?a25 ?t25 ?l25 ?c25 ?k25 ?a26 ?l26 ?c26 ?k26 ?a27 ?l27 ?c27 ?k27 ?a28 ?l28 ?c28 ?k28 ?a29 ?l29 ?c29 ?k29 ?a30 ?l30 ?c30 ?k30 ?a31 ?l31 ?c31 ?k31 ?a32 ?l32 ?c32 ?k32 ?a33 ?l33 ?c33 ?k33 ?a34 ?l34 ?c34 ?k34 ?a35 ?l35 ?c35 ?k35 ?a36 ?i36 ?l36 ?c36 ?k36 ?a37 ?l37 ?c37 ?k37 ?a38 ?i38 ?l38 ?c38 ?k38 ?a39 ?l39 ?c39 ?k39 ?a40 ?l40 ?c40 ?k40 ?a41 ?l41 ?c41 ?k41 ?a42 ?l42 ?c42 ?k42 ?lxNoRound ?rvNoRound ?sxNoRound ?ebNoRound ?tyNoRound ?kkNoRound ?gaNoRound ?ggNoRound ?hdNoRound ?xaNoRound ?xnNoRound ?xtNoRound ?xmNoRound ?ssNoRound ?svNoRound ?nxNoRound_kind ?sbNoRound_BadBook ?neNoRound_BadBook ?sbNoRound_BadWay ?neNoRound_BadWay ?sbNoRound_BadEnd ?neNoRound_BadEnd ?sbNoRound_NotAnEnd ?neNoRound_NotAnEnd ?sbNoRound_BadLabel ?neNoRound_BadLabel ?sbNoRound_BadStep ?neNoRound_BadStep ?sbNoRound_BadDeed ?neNoRound_BadDeed ?sbNoRound_Uncountable ?neNoRound_Uncountable ?sbNoRound_EndsError ?hdBadBook ?tyBadBook ?hdBadDeed ?tyBadDeed ?hdBadEnd ?tyBadEnd ?hdBadLabel ?tyBadLabel ?hdBadStep ?tyBadStep ?hdBadWay ?tyBadWay ?hdEndsError ?tyEndsError ?hdNotAnEnd ?tyNotAnEnd ?hdUncountable ?tyUncountable ?pgBook ?hdBook ?poBook ?saBook ?mkBook ?kcBook ?sfBook ?naBook_kinds ?z_len ?z_int ?z_min ?z_max ?z_range ?z_list ?z_tuple ?z_isinstance ?z_str ?z_bool ?z_sum ?z_sorted ?z_repr ?z_iter ?z_enumerate ?z_zip ?z_reversed ?z_any ?z_all ?z_abs ?z_set ?z_dict ?z_ValueError
    (case aDBook => k_is)
    (case aDNoRound => k_is)
    (case aDBadBook => k_is)
    (case aDBadDeed => k_is)
    (case aDBadEnd => k_is)
    (case aDBadLabel => k_is)
    (case aDBadStep => k_is)
    (case aDBadWay => k_is)
    (case aDEndsError => k_is)
    (case aDNotAnEnd => k_is)
    (case aDUncountable => k_is)
    (case a0 => k_is)
    (case l0 => k_is)
    (case c0 => k_is)
    (case k0 => k_is)
    (case a1 => k_is)
    (case l1 => k_is)
    (case c1 => k_is)
    (case k1 => k_is)
    (case a2 => k_is)
    (case l2 => k_is)
    (case c2 => k_is)
    (case k2 => k_is)
    (case a3 => k_is)
    (case l3 => k_is)
    (case c3 => k_is)
    (case k3 => k_is)
    (case a4 => k_is)
    (case l4 => k_is)
    (case c4 => k_is)
    (case k4 => k_is)
    (case a5 => k_is)
    (case l5 => k_is)
    (case c5 => k_is)
    (case k5 => k_is)
    (case a6 => k_is)
    (case l6 => k_is)
    (case c6 => k_is)
    (case k6 => k_is)
    (case a7 => k_is)
    (case l7 => k_is)
    (case c7 => k_is)
    (case k7 => k_is)
    (case a8 => k_is)
    (case l8 => k_is)
    (case c8 => k_is)
    (case k8 => k_is)
    (case a9 => k_is)
    (case l9 => k_is)
    (case c9 => k_is)
    (case k9 => k_is)
    (case a10 => k_is)
    (case l10 => k_is)
    (case c10 => k_is)
    (case k10 => k_is)
    (case a11 => k_is)
    (case l11 => k_is)
    (case c11 => k_is)
    (case k11 => k_is)
    (case a12 => k_is)
    (case l12 => k_is)
    (case c12 => k_is)
    (case k12 => k_is)
    (case a13 => k_is)
    (case l13 => k_is)
    (case c13 => k_is)
    (case k13 => k_is)
    (case a14 => k_is)
    (case l14 => k_is)
    (case c14 => k_is)
    (case k14 => k_is)
    (case a15 => k_is)
    (case l15 => k_is)
    (case c15 => k_is)
    (case k15 => k_is)
    (case a16 => k_is)
    (case l16 => k_is)
    (case c16 => k_is)
    (case k16 => k_is)
    (case a17 => k_is)
    (case l17 => k_is)
    (case c17 => k_is)
    (case k17 => k_is)
    (case a18 => k_is)
    (case l18 => k_is)
    (case c18 => k_is)
    (case k18 => k_is)
    (case a19 => k_is)
    (case l19 => k_is)
    (case c19 => k_is)
    (case k19 => k_is)
    (case a20 => k_is)
    (case l20 => k_is)
    (case c20 => k_is)
    (case k20 => k_is)
    (case a21 => k_is)
    (case l21 => k_is)
    (case c21 => k_is)
    (case k21 => k_is)
    (case a22 => k_is)
    (case l22 => k_is)
    (case c22 => k_is)
    (case k22 => k_is)
    (case a23 => k_is)
    (case l23 => k_is)
    (case c23 => k_is)
    (case k23 => k_is)
    (case a24 => k_is)
    (case l24 => k_is)
    (case c24 => k_is)
    (case k24 => k_is)
    (case a25 => k_is)
    (case t25 => k_is)
    (case l25 => k_is)
    (case c25 => k_is)
    (case k25 => k_is)
    (case a26 => k_is)
    (case l26 => k_is)
    (case c26 => k_is)
    (case k26 => k_is)
    (case a27 => k_is)
    (case l27 => k_is)
    (case c27 => k_is)
    (case k27 => k_is)
    (case a28 => k_is)
    (case l28 => k_is)
    (case c28 => k_is)
    (case k28 => k_is)
    (case a29 => k_is)
    (case l29 => k_is)
    (case c29 => k_is)
    (case k29 => k_is)
    (case a30 => k_is)
    (case l30 => k_is)
    (case c30 => k_is)
    (case k30 => k_is)
    (case a31 => k_is)
    (case l31 => k_is)
    (case c31 => k_is)
    (case k31 => k_is)
    (case a32 => k_is)
    (case l32 => k_is)
    (case c32 => k_is)
    (case k32 => k_is)
    (case a33 => k_is)
    (case l33 => k_is)
    (case c33 => k_is)
    (case k33 => k_is)
    (case a34 => k_is)
    (case l34 => k_is)
    (case c34 => k_is)
    (case k34 => k_is)
    (case a35 => k_is)
    (case l35 => k_is)
    (case c35 => k_is)
    (case k35 => k_is)
    (case a36 => k_is)
    (case i36 => k_is)
    (case l36 => k_is)
    (case c36 => k_is)
    (case k36 => k_is)
    (case a37 => k_is)
    (case l37 => k_is)
    (case c37 => k_is)
    (case k37 => k_is)
    (case a38 => k_is)
    (case i38 => k_is)
    (case l38 => k_is)
    (case c38 => k_is)
    (case k38 => k_is)
    (case a39 => k_is)
    (case l39 => k_is)
    (case c39 => k_is)
    (case k39 => k_is)
    (case a40 => k_is)
    (case l40 => k_is)
    (case c40 => k_is)
    (case k40 => k_is)
    (case a41 => k_is)
    (case l41 => k_is)
    (case c41 => k_is)
    (case k41 => k_is)
    (case a42 => k_is)
    (case l42 => k_is)
    (case c42 => k_is)
    (case k42 => k_is)
    (case lxNoRound => k_is)
    (case rvNoRound => exact rfl)
    (case sxNoRound => k_is)
    (case ebNoRound => k_is)
    (case tyNoRound => k_is)
    (case kkNoRound => k_is)
    (case gaNoRound => k_is)
    (case ggNoRound => k_is)
    (case hdNoRound => k_is)
    (case xaNoRound => k_is)
    (case xnNoRound => k_is)
    (case xtNoRound => k_is)
    (case xmNoRound => k_is)
    (case ssNoRound => k_is)
    (case svNoRound => k_is)
    (case nxNoRound_kind => k_is)
    (case sbNoRound_BadBook => k_is)
    (case neNoRound_BadBook => decide)
    (case sbNoRound_BadWay => k_is)
    (case neNoRound_BadWay => decide)
    (case sbNoRound_BadEnd => k_is)
    (case neNoRound_BadEnd => decide)
    (case sbNoRound_NotAnEnd => k_is)
    (case neNoRound_NotAnEnd => decide)
    (case sbNoRound_BadLabel => k_is)
    (case neNoRound_BadLabel => decide)
    (case sbNoRound_BadStep => k_is)
    (case neNoRound_BadStep => decide)
    (case sbNoRound_BadDeed => k_is)
    (case neNoRound_BadDeed => decide)
    (case sbNoRound_Uncountable => k_is)
    (case neNoRound_Uncountable => decide)
    (case sbNoRound_EndsError => k_is)
    (case hdBadBook => k_is)
    (case tyBadBook => k_is)
    (case hdBadDeed => k_is)
    (case tyBadDeed => k_is)
    (case hdBadEnd => k_is)
    (case tyBadEnd => k_is)
    (case hdBadLabel => k_is)
    (case tyBadLabel => k_is)
    (case hdBadStep => k_is)
    (case tyBadStep => k_is)
    (case hdBadWay => k_is)
    (case tyBadWay => k_is)
    (case hdEndsError => k_is)
    (case tyEndsError => k_is)
    (case hdNotAnEnd => k_is)
    (case tyNotAnEnd => k_is)
    (case hdUncountable => k_is)
    (case tyUncountable => k_is)
    (case pgBook => k_is)
    (case hdBook => k_is)
    (case poBook => k_is)
    (case saBook => k_is)
    (case mkBook => k_is)
    (case kcBook => k_is)
    (case sfBook => k_is)
    (case naBook_kinds => k_is)
    (case z_len => k_is)
    (case z_int => k_is)
    (case z_min => k_is)
    (case z_max => k_is)
    (case z_range => k_is)
    (case z_list => k_is)
    (case z_tuple => k_is)
    (case z_isinstance => k_is)
    (case z_str => k_is)
    (case z_bool => k_is)
    (case z_sum => k_is)
    (case z_sorted => k_is)
    (case z_repr => k_is)
    (case z_iter => k_is)
    (case z_enumerate => k_is)
    (case z_zip => k_is)
    (case z_reversed => k_is)
    (case z_any => k_is)
    (case z_all => k_is)
    (case z_abs => k_is)
    (case z_set => k_is)
    (case z_dict => k_is)
    (case z_ValueError => k_is)
#print axioms PySem.Challenge.cw_endsalike_k09_rounds_and_reach_holds
