import PyProof.Rows.All
import Wide.All
import OpenK.AllK
import Wide.FinOn
import HandS.ForMost
import HandS.ForExc
import HandS.IsInst
import HandS.Flow
import HandS.Wide
import HandS.TupAny
import HandS.Defaults
import HandS.MakeKwOnly
import KE.GoesEnum
import HandS.SlotsOwn
import HandS.Codes
import HandS.Iter
import HandS.Walk
import HandS.Conv
import PySem.Challenge.RW_endsalike_k07_knots_from_below
set_option Elab.async false
set_option linter.all false
set_option maxRecDepth 100000
set_option maxHeartbeats 1000000
/-! A typed layer over HandS: what a piece of code is worth in a context of typed slots; heaps are hidden. -/
namespace TL
open PySem L2

abbrev Fg := PySem.W.Frag

/-! ### readings as they are -/
def wE (X : Cx) (e : Expr) : TE := fun σ H Q => ∃ te, PE X e te ∧ te σ H Q
def wT (X : Cx) (e : Expr) : TT := fun σ H Q => ∃ te, PT X e te ∧ te σ H Q
def wA (X : Cx) (es : List Expr) : TA := fun σ H Q => ∃ te, PA X es te ∧ te σ H Q
def w1 (X : Cx) (st : Stmt) : TS := fun D σ H => ∃ t, PS X st t ∧ t D σ H
def wS (X : Cx) (sts : List Stmt) : TS := fun D σ H => ∃ t, PSs X sts t ∧ t D σ H
theorem pe_w {X : Cx} {e : Expr} : PE X e (wE X e) := ⟨fun pins s σ H Q I ⟨_, p, h⟩ => p.run pins s σ H Q I h⟩
theorem pt_w {X : Cx} {e : Expr} : PT X e (wT X e) := ⟨fun pins s σ H Q I ⟨_, p, h⟩ => p.run pins s σ H Q I h⟩
theorem pa_w {X : Cx} {es : List Expr} : PA X es (wA X es) := ⟨fun pos pins s σ H Q I ⟨_, p, h⟩ => p.run pos pins s σ H Q I h⟩
theorem ps_w {X : Cx} {st : Stmt} : PS X st (w1 X st) := ⟨fun pins s σ H D I ⟨_, p, h⟩ => p.run pins s σ H D I h⟩
theorem pss_w {X : Cx} {sts : List Stmt} : PSs X sts (wS X sts) := ⟨fun pins s σ H D I ⟨_, p, h⟩ => p.run pins s σ H D I h⟩

/-! ### heaps: H what stands, M ⊆ H what is frozen -/
structure Nx (M H M' H' : Hp) : Prop where
  ex : Same H H'
  vx : Same M M'
  sub : Same M' H'
  fr : ∀ a, M a = none → H a ≠ none → M' a = none
theorem Nx.refl {M H : Hp} (h : Same M H) : Nx M H M H := ⟨Same.refl _, Same.refl _, h, fun _ q _ => q⟩
theorem Nx.trans {M H M1 H1 M2 H2 : Hp} (a : Nx M H M1 H1) (b : Nx M1 H1 M2 H2) : Nx M H M2 H2 :=
  ⟨a.ex.trans b.ex, a.vx.trans b.vx, b.sub, fun x h q => b.fr x (a.fr x h q) fun z => by
    cases e : H x with
    | none => exact q e
    | some o => rw [a.ex x o e] at z; cases z⟩
theorem same_new {H : Hp} {p : Addr} {o : HO} (h : H p = none) : Same H (upd H p o) := fun a u e => by
  rw [upd_ne (ne_of_none e h)]; exact e
theorem same_updB {M H : Hp} {p : Addr} {o : HO} (h : Same M H) (hp : H p = none) : Same (upd M p o) (upd H p o) := fun a u e => by
  by_cases z : a = p
  · subst z; rw [upd_same] at e ⊢; exact e
  · rw [upd_ne z] at e ⊢; exact h a u e
theorem same_none {M H : Hp} (h : Same M H) {p : Addr} (hp : H p = none) : M p = none := h.free hp
theorem Nx.new {M H : Hp} (h : Same M H) {p : Addr} {o : HO} (hp : H p = none) : Nx M H (upd M p o) (upd H p o) :=
  ⟨same_new hp, same_new (same_none h hp), same_updB h hp, fun a e q => by
    rw [upd_ne (fun z => q (by rw [z]; exact hp))]; exact e⟩

/-! ### types -/
structure Ty (α : Type) where
  rep : Fg → Hp → V → α → Prop
  ext : ∀ {K : Fg} {M M' : Hp} {v : V} {x : α}, Same M M' → rep K M v x → rep K M' v x
theorem paired_imp {α β : Type} {F G : α → β → Prop} (f : ∀ a b, F a b → G a b) : ∀ {l₁ : List α} {l₂ : List β}, Paired F l₁ l₂ → Paired G l₁ l₂
  | _, _, .nil => .nil
  | _, _, .cons h t => .cons (f _ _ h) (paired_imp f t)
theorem paired_get {α β : Type} {F : α → β → Prop} : ∀ {l₁ : List α} {l₂ : List β} {i : Nat} {b : β}, Paired F l₁ l₂ → l₂[i]? = some b → ∃ a, l₁[i]? = some a ∧ F a b
  | _, _, _, _, .nil, e => by simp at e
  | _, _, 0, _, .cons r _, e => by simp at e; subst e; exact ⟨_, rfl, r⟩
  | _, _, i + 1, x, .cons _ t, e => by
    obtain ⟨u, h1, h2⟩ := paired_get (i := i) (b := x) t (by simpa using e)
    exact ⟨u, by simpa using h1, h2⟩
theorem paired_get' {α β : Type} {F : α → β → Prop} : ∀ {l₁ : List α} {l₂ : List β} {i : Nat} {a : α}, Paired F l₁ l₂ → l₁[i]? = some a → ∃ b, l₂[i]? = some b ∧ F a b
  | _, _, _, _, .nil, e => by simp at e
  | _, _, 0, _, .cons r _, e => by simp at e; subst e; exact ⟨_, rfl, r⟩
  | _, _, i + 1, x, .cons _ t, e => by
    obtain ⟨u, h1, h2⟩ := paired_get' (i := i) (a := x) t (by simpa using e)
    exact ⟨u, by simpa using h1, h2⟩
theorem paired_app {α β : Type} {F : α → β → Prop} : ∀ {l₁ m₁ : List α} {l₂ m₂ : List β}, Paired F l₁ l₂ → Paired F m₁ m₂ → Paired F (l₁ ++ m₁) (l₂ ++ m₂)
  | _, _, _, _, .nil, h => h
  | _, _, _, _, .cons r t, h => .cons r (paired_app t h)
theorem paired_take {α β : Type} {F : α → β → Prop} : ∀ {l₁ : List α} {l₂ : List β} (n : Nat), Paired F l₁ l₂ → Paired F (l₁.take n) (l₂.take n)
  | _, _, 0, _ => .nil
  | _, _, _ + 1, .nil => .nil
  | _, _, n + 1, .cons r t => .cons r (paired_take n t)
theorem paired_drop {α β : Type} {F : α → β → Prop} : ∀ {l₁ : List α} {l₂ : List β} (n : Nat), Paired F l₁ l₂ → Paired F (l₁.drop n) (l₂.drop n)
  | _, _, 0, h => h
  | _, _, _ + 1, .nil => .nil
  | _, _, n + 1, .cons _ t => paired_drop n t
theorem paired_set {α β : Type} {F : α → β → Prop} {a : α} {b : β} (h : F a b) : ∀ {l₁ : List α} {l₂ : List β} (i : Nat), Paired F l₁ l₂ → Paired F (l₁.set i a) (l₂.set i b)
  | _, _, _, .nil => .nil
  | _, _, 0, .cons _ t => .cons h t
  | _, _, i + 1, .cons q t => .cons q (paired_set h i t)

def tI : Ty Int := ⟨fun _ _ v i => v = .int i, fun _ h => h⟩
def tB : Ty Bool := ⟨fun _ _ v b => v = .bl b, fun _ h => h⟩
def tS : Ty Str := ⟨fun _ _ v s => v = .str s, fun _ h => h⟩
def tN : Ty Unit := ⟨fun _ _ v _ => v = .non, fun _ h => h⟩
theorem rd_ext {M M' : Hp} {a : Addr} {u : HO} (e : Same M M') (h : Rd M a u) : Rd M' a u := by
  rcases h with h | ⟨o, h⟩
  · exact .inl (e _ _ h)
  · exact .inr ⟨o, e _ _ h⟩
theorem sqT_ext {K : Fg} {M M' : Hp} {a : Addr} {xs : List V} (e : Same M M') (h : SqT K M a xs) : SqT K M' a xs := by
  rcases h with h | h
  · exact .inl (rd_ext e h)
  · exact .inr h
theorem sqL_ext {K : Fg} {M M' : Hp} {a : Addr} {xs : List V} (e : Same M M') (h : SqL K M a xs) : SqL K M' a xs := e.seq h
/-- a tuple, a list that is frozen, the script -/
def tTup {α : Type} (t : Ty α) : Ty (List α) := ⟨fun K M v xs => ∃ a vs, v = .ref a ∧ SqT K M a vs ∧ Paired (t.rep K M) vs xs,
  fun e ⟨a, vs, h1, h2, h3⟩ => ⟨a, vs, h1, sqT_ext e h2, paired_imp (fun _ _ q => t.ext e q) h3⟩⟩
def tLst {α : Type} (t : Ty α) : Ty (List α) := ⟨fun K M v xs => ∃ a vs, v = .ref a ∧ M a = some (.lst vs) ∧ Paired (t.rep K M) vs xs,
  fun e ⟨a, vs, h1, h2, h3⟩ => ⟨a, vs, h1, e _ _ h2, paired_imp (fun _ _ q => t.ext e q) h3⟩⟩
def tSq {α : Type} (t : Ty α) : Ty (List α) := ⟨fun K M v xs => ∃ a vs, v = .ref a ∧ SqL K M a vs ∧ Paired (t.rep K M) vs xs,
  fun e ⟨a, vs, h1, h2, h3⟩ => ⟨a, vs, h1, sqL_ext e h2, paired_imp (fun _ _ q => t.ext e q) h3⟩⟩
def tP2 {α β : Type} (s : Ty α) (t : Ty β) : Ty (α × β) := ⟨fun K M v x => ∃ a v1 v2, v = .ref a ∧ SqT K M a [v1, v2] ∧ s.rep K M v1 x.1 ∧ t.rep K M v2 x.2,
  fun e ⟨a, v1, v2, h1, h2, h3, h4⟩ => ⟨a, v1, v2, h1, sqT_ext e h2, s.ext e h3, t.ext e h4⟩⟩
def tP3 {α β γ : Type} (s : Ty α) (t : Ty β) (u : Ty γ) : Ty (α × β × γ) := ⟨fun K M v x => ∃ a v1 v2 v3, v = .ref a ∧ SqT K M a [v1, v2, v3] ∧ s.rep K M v1 x.1 ∧ t.rep K M v2 x.2.1 ∧ u.rep K M v3 x.2.2,
  fun e ⟨a, v1, v2, v3, h1, h2, h3, h4, h5⟩ => ⟨a, v1, v2, v3, h1, sqT_ext e h2, s.ext e h3, t.ext e h4, u.ext e h5⟩⟩
def tP4 {α β γ δ : Type} (s : Ty α) (t : Ty β) (u : Ty γ) (w : Ty δ) : Ty (α × β × γ × δ) := ⟨fun K M v x => ∃ a v1 v2 v3 v4, v = .ref a ∧ SqT K M a [v1, v2, v3, v4] ∧ s.rep K M v1 x.1 ∧ t.rep K M v2 x.2.1 ∧ u.rep K M v3 x.2.2.1 ∧ w.rep K M v4 x.2.2.2,
  fun e ⟨a, v1, v2, v3, v4, h1, h2, h3, h4, h5, h6⟩ => ⟨a, v1, v2, v3, v4, h1, sqT_ext e h2, s.ext e h3, t.ext e h4, u.ext e h5, w.ext e h6⟩⟩
/-- None, or such a one -/
def tO {α : Type} (t : Ty α) : Ty (Option α) := ⟨fun K M v x => match x with | none => v = .non | some y => t.rep K M v y, fun {K M M' v x} e h => by
  cases x with
  | none => exact h
  | some y => exact t.ext e h⟩
mutual
theorem dp_ext {K : Fg} {M M' : Hp} (e : Same M M') : ∀ (d : PyData) (v : V), Dp K M v d → Dp K M' v d
  | .none, _, h => by cases h; exact .non
  | .bool b, _, h => by cases h; exact .bl b
  | .int i, _, h => by cases h; exact .int i
  | .str s, _, h => by cases h; exact .str s
  | .list ds, _, h => by
    cases h with
    | lst h1 h2 => exact .lst (sqL_ext e h1) (dpAll_ext e ds _ h2)
  | .tuple ds, _, h => by
    cases h with
    | tup h1 h2 => exact .tup (sqT_ext e h1) (dpAll_ext e ds _ h2)
  | .dict kvs, _, h => by cases h
theorem dpAll_ext {K : Fg} {M M' : Hp} (e : Same M M') : ∀ (ds : List PyData) (vs : List V), DpAll K M vs ds → DpAll K M' vs ds
  | [], _, h => by cases h; exact .nil
  | d :: ds, _, h => by
    cases h with
    | cons h1 h2 => exact .cons (dp_ext e d _ h1) (dpAll_ext e ds _ h2)
end
/-- data of any shape -/
def tD : Ty PyData := ⟨fun K M v d => Dp K M v d, fun {K M M' v x} e h => dp_ext e x v h⟩

/-! ### slots -/
/-- a typed value -/
structure Cl : Type 1 where
  {α : Type}
  t : Ty α
  x : α
inductive FReps (K : Fg) (M : Hp) : List (Str × V) → List (Str × Cl) → Prop where
  | nil : FReps K M [] []
  | cons {f : Str} {v : V} {c : Cl} {vs : List (Str × V)} {cs : List (Str × Cl)} (h : c.t.rep K M v c.x) (r : FReps K M vs cs) : FReps K M ((f, v) :: vs) ((f, c) :: cs)
theorem freps_ext {K : Fg} {M M' : Hp} (e : Same M M') : ∀ {vs : List (Str × V)} {cs : List (Str × Cl)}, FReps K M vs cs → FReps K M' vs cs
  | _, _, .nil => .nil
  | _, _, .cons h r => .cons (Ty.ext _ e h) (freps_ext e r)
theorem freps_len {K : Fg} {M : Hp} : ∀ {vs : List (Str × V)} {cs : List (Str × Cl)}, FReps K M vs cs → vs.length = cs.length
  | _, _, .nil => rfl
  | _, _, .cons _ r => by simp [freps_len r]
theorem freps_lookup {K : Fg} {M : Hp} {f : Str} {c : Cl} : ∀ {vs : List (Str × V)} {cs : List (Str × Cl)}, FReps K M vs cs → cs.lookup f = some c → ∃ v, vs.lookup f = some v ∧ c.t.rep K M v c.x
  | _, _, .nil, e => by simp at e
  | _, _, .cons (f := g) (v := v) (c := d) h r, e => by
    by_cases z : f = g
    · subst z
      simp [List.lookup] at e
      subst e
      exact ⟨v, by simp [List.lookup], h⟩
    · have z' : (f == g) = false := by simpa using z
      simp only [List.lookup, z'] at e ⊢
      exact freps_lookup r e
theorem freps_none {K : Fg} {M : Hp} {f : Str} : ∀ {vs : List (Str × V)} {cs : List (Str × Cl)}, FReps K M vs cs → cs.lookup f = none → vs.lookup f = none
  | _, _, .nil, e => rfl
  | _, _, .cons (f := g) (v := v) (c := d) h r, e => by
    by_cases z : f = g
    · subst z
      simp [List.lookup] at e
    · have z' : (f == g) = false := by simpa using z
      simp only [List.lookup, z'] at e ⊢
      exact freps_none r e
/-- an instance of the class at C with these fields -/
def tOb {α : Type} (C : Addr) (fs : α → List (Str × Cl)) : Ty α := ⟨fun K M v x => ∃ a dx vs, v = .ref a ∧ M a = some (.ins C dx vs) ∧ FReps K M vs (fs x),
  fun e ⟨a, dx, vs, h1, h2, h3⟩ => ⟨a, dx, vs, h1, e _ _ h2, freps_ext e h3⟩⟩
theorem refs_inj : ∀ {bs cs : List Addr}, bs.map V.ref = cs.map V.ref → bs = cs
  | [], [], _ => rfl
  | [], _ :: _, h => by simp at h
  | _ :: _, [], h => by simp at h
  | b :: bs, c :: cs, h => by
    simp only [List.map_cons, List.cons.injEq, V.ref.injEq] at h
    rw [h.1, refs_inj h.2]
inductive Sl : Type 1 where
  | un
  | vl {α : Type} (t : Ty α) (x : α)
  | ow {α : Type} (t : Ty α) (xs : List α)
  | o2 {α : Type} (t : Ty α) (xss : List (List α))
  | ob (p dx C : Addr) (fs : List (Str × Cl))
def Sl.own : Sl → Bool
  | .ow _ _ => true
  | .o2 _ _ => true
  | .ob _ _ _ _ => true
  | _ => false
def RepS (K : Fg) (M : Hp) (v : V) : Sl → Prop
  | .vl t x => t.rep K M v x
  | _ => False
/-- a list of one's own at a -/
def OwnL (K : Fg) {α : Type} (t : Ty α) (H0 M H : Hp) (a : Addr) (xs : List α) : Prop := H0 a = none ∧ M a = none ∧ ∃ vs, H a = some (.lst vs) ∧ Paired (t.rep K M) vs xs
def Ok1 (K : Fg) (H0 M H : Hp) (o : Option V) (fp : List Addr) : Sl → Prop
  | .un => True
  | .vl t x => ∃ v, o = some v ∧ t.rep K M v x
  | .ow t xs => ∃ a, fp = [a] ∧ o = some (.ref a) ∧ OwnL K t H0 M H a xs
  | .o2 t xss => ∃ a bs, fp = a :: bs ∧ o = some (.ref a) ∧ H0 a = none ∧ M a = none ∧ H a = some (.lst (bs.map V.ref)) ∧ a ∉ bs ∧ bs.Nodup ∧ Paired (OwnL K t H0 M H) bs xss
  | .ob p dx C fs => fp = [p] ∧ o = some (.ref p) ∧ H0 p = none ∧ M p = none ∧ ∃ vs, H p = some (.ins C dx vs) ∧ H dx = some (.own p) ∧ H0 dx = none ∧ M dx = none ∧ FReps K M vs fs
structure St (K : Fg) (M0 H0 M H : Hp) (σ : L2.St) (G : List Sl) : Prop where
  nx : Nx M0 H0 M H
  len : σ.length = G.length
  sl : ∃ A : Nat → List Addr, (∀ i s, G[i]? = some s → ∃ o, σ[i]? = some o ∧ Ok1 K H0 M H o (A i) s) ∧ ∀ i j s t, G[i]? = some s → G[j]? = some t → s.own = true → t.own = true → i ≠ j → ∀ x, x ∈ A i → x ∉ A j
section
variable {K : Fg} {M0 H0 M H M' H' : Hp} {σ : L2.St} {G : List Sl}
theorem OwnL.next {α : Type} {t : Ty α} {a : Addr} {xs : List α} (n : Nx M H M' H') (h : OwnL K t H0 M H a xs) : OwnL K t H0 M' H' a xs := by
  obtain ⟨h0, hm, vs, hh, p⟩ := h
  exact ⟨h0, n.fr a hm (by rw [hh]; simp), vs, n.ex _ _ hh, paired_imp (fun _ _ q => t.ext n.vx q) p⟩
theorem OwnL.keep {α : Type} {t : Ty α} {a : Addr} {xs : List α} (h : OwnL K t H0 M H a xs) (k : H' a = H a) : OwnL K t H0 M H' a xs := by
  obtain ⟨h0, hm, vs, hh, p⟩ := h
  exact ⟨h0, hm, vs, by rw [k]; exact hh, p⟩
theorem OwnL.vw {α : Type} {t : Ty α} {a : Addr} {xs : List α} (h : OwnL K t H0 M H a xs) (m : Same M M') (k : M' a = none) : OwnL K t H0 M' H a xs := by
  obtain ⟨h0, hm, vs, hh, p⟩ := h
  exact ⟨h0, k, vs, hh, paired_imp (fun _ _ q => t.ext m q) p⟩
theorem Ok1.next {o : Option V} {a : List Addr} {s : Sl} (n : Nx M H M' H') (h : Ok1 K H0 M H o a s) : Ok1 K H0 M' H' o a s := by
  cases s with
  | un => trivial
  | vl t x => obtain ⟨v, e, r⟩ := h; exact ⟨v, e, t.ext n.vx r⟩
  | ow t xs => obtain ⟨b, f, e, r⟩ := h; exact ⟨b, f, e, r.next n⟩
  | o2 t xss =>
    obtain ⟨b, bs, f, e, h0, hm, hh, q1, q2, p⟩ := h
    exact ⟨b, bs, f, e, h0, n.fr b hm (by rw [hh]; simp), n.ex _ _ hh, q1, q2, paired_imp (fun _ _ r => r.next n) p⟩
  | ob p dx C fs =>
    obtain ⟨ea, e, h0, hm, vs, hh, hd, h0d, md, q⟩ := h
    exact ⟨ea, e, h0, n.fr p hm (by rw [hh]; simp), vs, n.ex _ _ hh, n.ex _ _ hd, h0d, n.fr dx md (by rw [hd]; simp), freps_ext n.vx q⟩
/-- the heap changes elsewhere -/
theorem Ok1.keep {o : Option V} {a : List Addr} {s : Sl} (h : Ok1 K H0 M H o a s) (k : ∀ x ∈ a, H' x = H x) (kd : ∀ d p, H d = some (.own p) → H' d = some (.own p)) : Ok1 K H0 M H' o a s := by
  cases s with
  | un => trivial
  | vl t x => exact h
  | ow t xs => obtain ⟨b, rfl, e, r⟩ := h; exact ⟨b, rfl, e, r.keep (k b (by simp))⟩
  | o2 t xss =>
    obtain ⟨b, bs, rfl, e, h0, hm, hh, q1, q2, p⟩ := h
    refine ⟨b, bs, rfl, e, h0, hm, by rw [k b (by simp)]; exact hh, q1, q2, ?_⟩
    have key : ∀ {bs : List Addr} {xss}, (∀ x ∈ bs, H' x = H x) → Paired (OwnL K t H0 M H) bs xss → Paired (OwnL K t H0 M H') bs xss := by
      intro bs xss kk pp
      induction pp with
      | nil => exact .nil
      | cons r _ ih => exact .cons (r.keep (kk _ (by simp))) (ih fun x hx => kk x (by simp [hx]))
    exact key (fun x hx => k x (by simp [hx])) p
  | ob p dx C fs =>
    obtain ⟨rfl, e, h0, hm, vs, hh, hd, h0d, md, q⟩ := h
    exact ⟨rfl, e, h0, hm, vs, by rw [k p (by simp)]; exact hh, kd _ _ hd, h0d, md, q⟩
/-- the view grows elsewhere -/
theorem Ok1.vw {o : Option V} {a : List Addr} {s : Sl} (h : Ok1 K H0 M H o a s) (m : Same M M') (k : ∀ x ∈ a, M' x = none) (kd : ∀ d p, H d = some (.own p) → M d = none → M' d = none) : Ok1 K H0 M' H o a s := by
  cases s with
  | un => trivial
  | vl t x => obtain ⟨v, e, r⟩ := h; exact ⟨v, e, t.ext m r⟩
  | ow t xs => obtain ⟨b, rfl, e, r⟩ := h; exact ⟨b, rfl, e, r.vw m (k b (by simp))⟩
  | o2 t xss =>
    obtain ⟨b, bs, rfl, e, h0, hm, hh, q1, q2, p⟩ := h
    refine ⟨b, bs, rfl, e, h0, k b (by simp), hh, q1, q2, ?_⟩
    have key : ∀ {bs : List Addr} {xss}, (∀ x ∈ bs, M' x = none) → Paired (OwnL K t H0 M H) bs xss → Paired (OwnL K t H0 M' H) bs xss := by
      intro bs xss kk pp
      induction pp with
      | nil => exact .nil
      | cons r _ ih => exact .cons (r.vw m (kk _ (by simp))) (ih fun x hx => kk x (by simp [hx]))
    exact key (fun x hx => k x (by simp [hx])) p
  | ob p dx C fs =>
    obtain ⟨rfl, e, h0, hm, vs, hh, hd, h0d, md, q⟩ := h
    exact ⟨rfl, e, h0, k p (by simp), vs, hh, hd, h0d, kd _ _ hd md, freps_ext m q⟩
/-- what stands at an own slot's addresses -/
theorem Ok1.there {o : Option V} {a : List Addr} {s : Sl} (h : Ok1 K H0 M H o a s) (ho : s.own = true) : ∀ x ∈ a, H0 x = none ∧ M x = none ∧ ((∃ vs, H x = some (.lst vs)) ∨ ∃ C dx vs, H x = some (.ins C dx vs)) := by
  cases s with
  | un => cases ho
  | vl t x => cases ho
  | ow t xs =>
    obtain ⟨b, rfl, e, h0, hm, vs, hh, p⟩ := h
    intro x hx
    rw [List.mem_singleton.mp hx]; exact ⟨h0, hm, .inl ⟨vs, hh⟩⟩
  | o2 t xss =>
    obtain ⟨b, bs, rfl, e, h0, hm, hh, q1, q2, p⟩ := h
    intro x hx
    rcases List.mem_cons.mp hx with rfl | hx
    · exact ⟨h0, hm, .inl ⟨_, hh⟩⟩
    · obtain ⟨i, hi⟩ := List.getElem?_of_mem hx
      obtain ⟨xs, _, h0, hm, vs, hh, _⟩ := paired_get' p hi
      exact ⟨h0, hm, .inl ⟨vs, hh⟩⟩
  | ob p dx C fs =>
    obtain ⟨rfl, e, h0, hm, vs, hh, hd, h0d, md, q⟩ := h
    intro x hx
    rw [List.mem_singleton.mp hx]; exact ⟨h0, hm, .inr ⟨C, dx, vs, hh⟩⟩
theorem St.next (S : St K M0 H0 M H σ G) (n : Nx M H M' H') : St K M0 H0 M' H' σ G := by
  obtain ⟨A, h1, h2⟩ := S.sl
  exact ⟨S.nx.trans n, S.len, A, fun i s e => by
    obtain ⟨o, q, r⟩ := h1 i s e
    exact ⟨o, q, r.next n⟩, h2⟩
theorem St.sub (S : St K M0 H0 M H σ G) : Same M H := S.nx.sub
theorem St.get {α : Type} {t : Ty α} {x : α} {i : Nat} (S : St K M0 H0 M H σ G) (h : G[i]? = some (.vl t x)) : ∃ v, σ[i]? = some (some v) ∧ t.rep K M v x := by
  obtain ⟨A, h1, _⟩ := S.sl
  obtain ⟨o, q, v, e, r⟩ := h1 i _ h
  exact ⟨v, by rw [q, e], r⟩
/-- THE CHANGE of one slot: i gets s with the footprint fp, the value o -/
theorem St.change {s : Sl} {i : Nat} {o : Option V} {fp : List Addr} (S : St K M0 H0 M H σ G) (n : Nx M0 H0 M' H') (ho : s.own = true → ∀ (A : Nat → List Addr), (∀ i s, G[i]? = some s → ∃ o, σ[i]? = some o ∧ Ok1 K H0 M H o (A i) s) →
      (∀ i j s t, G[i]? = some s → G[j]? = some t → s.own = true → t.own = true → i ≠ j → ∀ x, x ∈ A i → x ∉ A j) → ∀ j t, j ≠ i → G[j]? = some t → t.own = true → ∀ x ∈ A j, x ∉ fp)
    (hk : ∀ (A : Nat → List Addr), (∀ i s, G[i]? = some s → ∃ o, σ[i]? = some o ∧ Ok1 K H0 M H o (A i) s) → (∀ i j s t, G[i]? = some s → G[j]? = some t → s.own = true → t.own = true → i ≠ j → ∀ x, x ∈ A i → x ∉ A j) →
      ∀ j t o', j ≠ i → G[j]? = some t → Ok1 K H0 M H o' (A j) t → Ok1 K H0 M' H' o' (A j) t) (hs : Ok1 K H0 M' H' o fp s) : St K M0 H0 M' H' (σ.set i o) (G.set i s) := by
  obtain ⟨A, h1, h2⟩ := S.sl
  refine ⟨n, by rw [List.length_set, List.length_set]; exact S.len, fun j => if j = i then fp else A j, fun j u e => ?_, fun j k u w e1 e2 o1 o2 ne x hx => ?_⟩
  · by_cases z : i = j
    · subst z
      have hl : i < G.length := by
        have := (List.getElem?_eq_some_iff.mp e).1
        rwa [List.length_set] at this
      rw [List.getElem?_set_self hl] at e
      cases e
      refine ⟨o, List.getElem?_set_self (by rw [S.len]; exact hl), ?_⟩
      show Ok1 K H0 M' H' o (if i = i then fp else A i) _
      rw [if_pos rfl]; exact hs
    · rw [List.getElem?_set_ne z] at e
      rw [List.getElem?_set_ne z]
      obtain ⟨o', q, r⟩ := h1 j u e
      refine ⟨o', q, ?_⟩
      show Ok1 K H0 M' H' o' (if j = i then fp else A j) _
      rw [if_neg (Ne.symm z)]
      exact hk A h1 h2 j u o' (Ne.symm z) e r
  · have hx' : x ∈ (if j = i then fp else A j) := hx
    show x ∉ (if k = i then fp else A k)
    by_cases zj : j = i
    · by_cases zk : k = i
      · exact absurd (zj.trans zk.symm) ne
      · rw [if_pos zj] at hx'
        rw [if_neg zk]
        rw [List.getElem?_set_ne (Ne.symm zk)] at e2
        have hj : G[i]? = some (G[i]?.getD .un) ∨ G[i]? = none := by
          cases q : G[i]? with
          | none => exact .inr rfl
          | some u => exact .inl rfl
        have hl : i < G.length := by
          have := (List.getElem?_eq_some_iff.mp e1).1
          rw [List.length_set, zj] at this; exact this
        rw [zj, List.getElem?_set_self hl] at e1
        cases e1
        intro hk'
        exact ho o1 A h1 h2 k w zk e2 o2 x hk' hx'
    · rw [if_neg zj] at hx'
      rw [List.getElem?_set_ne (Ne.symm zj)] at e1
      by_cases zk : k = i
      · rw [if_pos zk]
        have hl : i < G.length := by
          have := (List.getElem?_eq_some_iff.mp e2).1
          rw [List.length_set, zk] at this; exact this
        rw [zk, List.getElem?_set_self hl] at e2
        cases e2
        exact ho o2 A h1 h2 j u zj e1 o1 x hx'
      · rw [if_neg zk]
        rw [List.getElem?_set_ne (Ne.symm zk)] at e2
        exact h2 j k u w e1 e2 o1 o2 ne x hx'
/-- a slot is stored -/
theorem St.set {s : Sl} {i : Nat} {v : V} (S : St K M0 H0 M H σ G) (hr : RepS K M v s) : St K M0 H0 M H (σ.set i (some v)) (G.set i s) := by
  have no : s.own = false := by cases s <;> first | rfl | exact hr.elim
  refine S.change (fp := []) S.nx (fun h => by rw [no] at h; cases h) (fun _ _ _ _ _ _ _ _ r => r) ?_
  cases s with
  | vl t x => exact ⟨v, rfl, hr⟩
  | un => trivial
  | ow t xs => exact hr.elim
  | o2 t xs => exact hr.elim
  | ob p dx C fs => exact hr.elim
/-- a slot is forgotten, its value too -/
theorem St.drop {i : Nat} (S : St K M0 H0 M H σ G) : St K M0 H0 M H (σ.set i none) (G.set i .un) :=
  S.change (fp := []) S.nx (fun h => by cases h) (fun _ _ _ _ _ _ _ _ r => r) trivial
/-- a new list of its own: at p, not frozen -/
theorem St.setOwn {α : Type} {t : Ty α} {xs : List α} {vs : List V} {i : Nat} {p : Addr} (S : St K M0 H0 M H σ G) (n : Nx M H M' H') (hp : H p = none) (mp : M' p = none) (hH : H' p = some (.lst vs)) (hr : Paired (t.rep K M') vs xs) :
    St K M0 H0 M' H' (σ.set i (some (.ref p))) (G.set i (.ow t xs)) := by
  have h0p : H0 p = none := S.nx.ex.free hp
  refine S.change (fp := [p]) (S.nx.trans n) (fun _ A h1 _ j t' _ e o x hx hx2 => ?_) (fun _ _ _ _ _ _ _ _ r => r.next n) ⟨p, rfl, rfl, h0p, mp, vs, hH, hr⟩
  obtain ⟨_, _, r⟩ := h1 j t' e
  obtain ⟨_, _, q⟩ := r.there o x hx
  rw [List.mem_singleton.mp hx2, hp] at q
  rcases q with ⟨_, q⟩ | ⟨_, _, _, q⟩ <;> cases q
theorem own_upd {a : Addr} {u o : HO} (hh : H a = some u) (hu : ∀ p, u ≠ .own p) : ∀ d p, H d = some (.own p) → upd H a o d = some (.own p) := fun d p e => by
  rw [upd_ne (ne_of e hh (fun q => hu p q.symm))]; exact e
theorem St.value (S : St K M0 H0 M H σ G) {i : Nat} {o : Option V} (h : σ[i]? = some o) : σ.set i o = σ := by
  apply List.ext_getElem?
  intro j
  by_cases hj : i = j
  · subst hj
    rw [List.getElem?_set_self (List.getElem?_eq_some_iff.mp h).1, h]
  · rw [List.getElem?_set_ne hj]
theorem nx_upd {a : Addr} {o : HO} (n : Nx M0 H0 M H) (h0 : H0 a = none) (hm : M a = none) : Nx M0 H0 M (upd H a o) :=
  ⟨fun b u e => by rw [upd_ne (ne_of_none e h0)]; exact n.ex b u e, n.vx, fun b u e => by rw [upd_ne (ne_of_none e hm)]; exact n.sub b u e, n.fr⟩
/-- a list of one's own is changed -/
theorem St.putOwn {α : Type} {t : Ty α} {xs ys : List α} {i : Nat} (S : St K M0 H0 M H σ G) (h : G[i]? = some (.ow t xs)) :
    ∃ a vs, σ[i]? = some (some (.ref a)) ∧ H a = some (.lst vs) ∧ M a = none ∧ Paired (t.rep K M) vs xs ∧ ∀ ws, Paired (t.rep K M) ws ys → St K M0 H0 M (upd H a (.lst ws)) σ (G.set i (.ow t ys)) := by
  obtain ⟨A0, h10, h20⟩ := S.sl
  obtain ⟨o, q, a, ef, e, h0, hm, vs, hh, p⟩ := h10 i _ h
  subst e
  refine ⟨a, vs, q, hh, hm, p, fun ws pw => ?_⟩
  rw [← S.value q]
  refine S.change (fp := [a]) (nx_upd S.nx h0 hm) (fun _ A h1 h2 j t' nj e' o' x hx hx2 => ?_) (fun A h1 h2 j t' o' nj e' r => ?_) ⟨a, rfl, rfl, h0, hm, ws, upd_same, pw⟩
  · obtain ⟨o2, q2, a2, ef2, e2, _⟩ := h1 i _ h
    rw [q] at q2; cases q2; cases e2
    exact h2 j i _ _ e' h o' rfl nj x hx (by rw [ef2]; exact hx2)
  · by_cases ho : t'.own = true
    · obtain ⟨o2, q2, a2, ef2, e2, _⟩ := h1 i _ h
      rw [q] at q2; cases q2; cases e2
      exact r.keep (fun x hx => upd_ne (fun z => h2 j i _ _ e' h ho rfl nj x hx (by rw [ef2, z]; simp))) (own_upd hh (fun _ => by simp))
    · cases t' with
      | un => trivial
      | vl t x => exact r
      | ow _ _ => exact absurd rfl ho
      | o2 _ _ => exact absurd rfl ho
      | ob _ _ _ _ => exact absurd rfl ho
/-- an object of one's own gets a field -/
theorem St.putOb {p dx C : Addr} {fs fs' : List (Str × Cl)} {i : Nat} (S : St K M0 H0 M H σ G) (h : G[i]? = some (.ob p dx C fs)) :
    ∃ vs, σ[i]? = some (some (.ref p)) ∧ H p = some (.ins C dx vs) ∧ M p = none ∧ FReps K M vs fs ∧ ∀ ws, FReps K M ws fs' → St K M0 H0 M (upd H p (.ins C dx ws)) σ (G.set i (.ob p dx C fs')) := by
  obtain ⟨A0, h10, h20⟩ := S.sl
  obtain ⟨o, q, ef, e, h0, hm, vs, hh, hd, h0d, md, pr⟩ := h10 i _ h
  subst e
  refine ⟨vs, q, hh, hm, pr, fun ws pw => ?_⟩
  rw [← S.value q]
  refine S.change (fp := [p]) (nx_upd S.nx h0 hm) (fun _ A h1 h2 j t' nj e' o' x hx hx2 => ?_) (fun A h1 h2 j t' o' nj e' r => ?_) ⟨rfl, rfl, h0, hm, ws, upd_same, own_upd hh (fun _ => by simp) _ _ hd, h0d, md, pw⟩
  · obtain ⟨o2, q2, ef2, _⟩ := h1 i _ h
    exact h2 j i _ _ e' h o' rfl nj x hx (by rw [ef2]; exact hx2)
  · by_cases ho : t'.own = true
    · obtain ⟨o2, q2, ef2, _⟩ := h1 i _ h
      exact r.keep (fun x hx => upd_ne (fun z => h2 j i _ _ e' h ho rfl nj x hx (by rw [ef2, z]; simp))) (own_upd hh (fun _ => by simp))
    · cases t' with
      | un => trivial
      | vl t x => exact r
      | ow _ _ => exact absurd rfl ho
      | o2 _ _ => exact absurd rfl ho
      | ob _ _ _ _ => exact absurd rfl ho
/-- .. what is known of it at the end -/
theorem St.getOb {p dx C : Addr} {fs : List (Str × Cl)} {i : Nat} (S : St K M0 H0 M H σ G) (h : G[i]? = some (.ob p dx C fs)) :
    ∃ vs, σ[i]? = some (some (.ref p)) ∧ H p = some (.ins C dx vs) ∧ H dx = some (.own p) ∧ M p = none ∧ M dx = none ∧ FReps K M vs fs := by
  obtain ⟨A, h1, h2⟩ := S.sl
  obtain ⟨o, q, ea, e, h0, hm, vs, hh, hd, h0d, md, pr⟩ := h1 i _ h
  exact ⟨vs, by rw [q, e], hh, hd, hm, md, pr⟩
/-- a list of one's own is frozen -/
theorem St.freeze {α : Type} {t : Ty α} {xs : List α} {i : Nat} (S : St K M0 H0 M H σ G) (h : G[i]? = some (.ow t xs)) :
    ∃ a vs, H a = some (.lst vs) ∧ M a = none ∧ H0 a = none ∧ St K M0 H0 (upd M a (.lst vs)) H σ (G.set i (.vl (tLst t) xs)) := by
  obtain ⟨A0, h10, h20⟩ := S.sl
  obtain ⟨o, q, a, ef, e, h0, hm, vs, hh, p⟩ := h10 i _ h
  subst e
  have mm : Same M (upd M a (.lst vs)) := same_new hm
  refine ⟨a, vs, hh, hm, h0, ?_⟩
  rw [← S.value q]
  refine S.change (fp := []) ⟨S.nx.ex, S.nx.vx.trans mm, fun b u e => ?_, fun b n1 n2 => ?_⟩ (fun h => by cases h) (fun A h1 h2 j t' o' nj e' r => ?_) ⟨.ref a, rfl, a, vs, rfl, upd_same, paired_imp (fun _ _ r => t.ext mm r) p⟩
  · by_cases z : b = a
    · subst z; rw [upd_same] at e; cases e; exact hh
    · rw [upd_ne z] at e; exact S.sub b u e
  · rw [upd_ne (fun z => n2 (by rw [z]; exact h0))]; exact S.nx.fr b n1 n2
  · by_cases ho : t'.own = true
    · obtain ⟨o2, q2, a2, ef2, e2, _⟩ := h1 i _ h
      rw [q] at q2; cases q2; cases e2
      refine r.vw mm (fun x hx => ?_) (fun d p e md => by rw [upd_ne (ne_of e hh (by simp))]; exact md)
      rw [upd_ne (fun z => h2 j i _ _ e' h ho rfl nj x hx (by rw [ef2, z]; simp))]
      exact (r.there ho x hx).2.1
    · cases t' with
      | un => trivial
      | vl t x => obtain ⟨v, r1, r2⟩ := r; exact ⟨v, r1, t.ext mm r2⟩
      | ow _ _ => exact absurd rfl ho
      | o2 _ _ => exact absurd rfl ho
      | ob _ _ _ _ => exact absurd rfl ho

/-! ### a list of lists, all of one's own -/
/-- a new one: at p, its items at bs -/
theorem St.setOwn2 {α : Type} {t : Ty α} {xss : List (List α)} {bs : List Addr} {i : Nat} {p : Addr} (S : St K M0 H0 M H σ G) (n : Nx M H M' H') (hp : H p = none) (mp : M' p = none) (hH : H' p = some (.lst (bs.map V.ref))) (hb : ∀ x ∈ bs, H x = none) (hpb : p ∉ bs) (nd : bs.Nodup)
    (hr : Paired (fun b xs => M' b = none ∧ ∃ vs, H' b = some (.lst vs) ∧ Paired (t.rep K M') vs xs) bs xss) : St K M0 H0 M' H' (σ.set i (some (.ref p))) (G.set i (.o2 t xss)) := by
  have h0p : H0 p = none := S.nx.ex.free hp
  have fresh : ∀ x ∈ p :: bs, H x = none := fun x hx => by
    rcases List.mem_cons.mp hx with rfl | hx
    · exact hp
    · exact hb x hx
  refine S.change (fp := p :: bs) (S.nx.trans n) (fun _ A h1 _ j t' _ e o x hx hx2 => ?_) (fun _ _ _ _ _ _ _ _ r => r.next n) ⟨p, bs, rfl, rfl, h0p, mp, hH, hpb, nd, ?_⟩
  · obtain ⟨_, _, r⟩ := h1 j t' e
    obtain ⟨_, _, q⟩ := r.there o x hx
    rw [fresh x hx2] at q
    rcases q with ⟨_, q⟩ | ⟨_, _, _, q⟩ <;> cases q
  · have key : ∀ {bs : List Addr} {xss : List (List α)}, (∀ x ∈ bs, H x = none) → Paired (fun b xs => M' b = none ∧ ∃ vs, H' b = some (.lst vs) ∧ Paired (t.rep K M') vs xs) bs xss → Paired (OwnL K t H0 M' H') bs xss := by
      intro bs xss kk pp
      induction pp with
      | nil => exact .nil
      | cons r _ ih => exact .cons ⟨S.nx.ex.free (kk _ (by simp)), r.1, r.2⟩ (ih fun x hx => kk x (by simp [hx]))
    exact key hb hr
/-- its j-th list is changed -/
theorem St.put2 {α : Type} {t : Ty α} {xss : List (List α)} {xs ys : List α} {i j : Nat} (S : St K M0 H0 M H σ G) (h : G[i]? = some (.o2 t xss)) (hj : xss[j]? = some xs) :
    ∃ (a : Addr) (bs : List Addr) (b : Addr) (vs : List V), σ[i]? = some (some (.ref a)) ∧ H a = some (.lst (bs.map V.ref)) ∧ bs.length = xss.length ∧ bs[j]? = some b ∧ H b = some (.lst vs) ∧ M b = none ∧ Paired (t.rep K M) vs xs ∧ ∀ ws, Paired (t.rep K M) ws ys → St K M0 H0 M (upd H b (.lst ws)) σ (G.set i (.o2 t (xss.set j ys))) := by
  obtain ⟨A0, h10, h20⟩ := S.sl
  obtain ⟨o, q, a, bs, ef, e, h0, hm, hh, n1, n2, p⟩ := h10 i _ h
  subst e
  obtain ⟨b, eb, b0, bm, vs, hb, pr⟩ := paired_get p hj
  refine ⟨a, bs, b, vs, q, hh, p.length, eb, hb, bm, pr, fun ws pw => ?_⟩
  have bmem : b ∈ bs := List.mem_of_getElem? eb
  rw [← S.value q]
  refine S.change (fp := a :: bs) (nx_upd S.nx b0 bm) (fun _ A h1 h2 l t' nj e' o' x hx hx2 => ?_) (fun A h1 h2 l t' o' nj e' r => ?_) ⟨a, bs, rfl, rfl, h0, hm, by rw [upd_ne (fun z => n1 (by rw [z]; exact bmem))]; exact hh, n1, n2, ?_⟩
  · obtain ⟨o2, q2, a2, bs2, ef2, e2, _, _, hh2, _⟩ := h1 i _ h
    rw [q] at q2; cases q2; cases e2
    rw [hh] at hh2
    have eb2 : bs = bs2 := by
      have := Option.some.inj hh2
      injection this with this
      exact refs_inj this
    subst eb2
    exact h2 l i _ _ e' h o' rfl nj x hx (by rw [ef2]; exact hx2)
  · by_cases ho : t'.own = true
    · obtain ⟨o2, q2, a2, bs2, ef2, e2, _, _, hh2, _⟩ := h1 i _ h
      rw [q] at q2; cases q2; cases e2
      rw [hh] at hh2
      have eb2 : bs = bs2 := by
        have := Option.some.inj hh2
        injection this with this
        exact refs_inj this
      subst eb2
      exact r.keep (fun x hx => upd_ne (fun z => h2 l i _ _ e' h ho rfl nj x hx (by rw [ef2, z]; simp [bmem]))) (own_upd hb (fun _ => by simp))
    · cases t' with
      | un => trivial
      | vl t x => exact r
      | ow _ _ => exact absurd rfl ho
      | o2 _ _ => exact absurd rfl ho
      | ob _ _ _ _ => exact absurd rfl ho
  · have key2 : ∀ {cs : List Addr} {yss : List (List α)}, (∀ x ∈ cs, x ≠ b) → Paired (OwnL K t H0 M H) cs yss → Paired (OwnL K t H0 M (upd H b (.lst ws))) cs yss := by
      intro cs yss kk qq
      induction qq with
      | nil => exact .nil
      | cons r _ ih => exact .cons (r.keep (upd_ne (kk _ (by simp)))) (ih fun x hx => kk x (by simp [hx]))
    have key : ∀ {bs : List Addr} {xss : List (List α)} {j : Nat}, bs.Nodup → bs[j]? = some b → Paired (OwnL K t H0 M H) bs xss → Paired (OwnL K t H0 M (upd H b (.lst ws))) bs (xss.set j ys) := by
      intro bs xss j nd hb' pp
      induction pp generalizing j with
      | nil => exact .nil
      | cons r rest ih =>
        cases j with
        | zero =>
          have e1 := Option.some.inj (show some _ = some b from by simpa using hb')
          subst e1
          refine .cons ⟨r.1, r.2.1, ws, upd_same, pw⟩ ?_
          exact key2 (fun x hx z => (List.nodup_cons.mp nd).1 (by rw [← z]; exact hx)) rest
        | succ j =>
          rw [List.getElem?_cons_succ] at hb'
          exact .cons (r.keep (upd_ne (fun z => (List.nodup_cons.mp nd).1 (by rw [z]; exact List.mem_of_getElem? hb')))) (ih (List.nodup_cons.mp nd).2 hb')
    exact key n2 eb p
/-- its j-th list is exchanged for a new one at p; a new list is put behind -/
theorem St.new2 {α : Type} {t : Ty α} {xss yss : List (List α)} {i : Nat} {p : Addr} {cs : List Addr → List Addr} {xs : List α} {vs : List V} (S : St K M0 H0 M H σ G) (h : G[i]? = some (.o2 t xss)) (n : Nx M H M' H') (hp : H p = none) (mp : M' p = none) (hv : H' p = some (.lst vs)) (hr : Paired (t.rep K M') vs xs)
    (hc : ∀ bs : List Addr, bs.length = xss.length → bs.Nodup → p ∉ bs → (cs bs).Nodup ∧ ∀ x ∈ cs bs, x = p ∨ x ∈ bs) (hc2 : ∀ {F : Addr → List α → Prop} {bs : List Addr}, F p xs → Paired F bs xss → Paired F (cs bs) yss) :
    ∃ (a : Addr) (bs : List Addr), σ[i]? = some (some (.ref a)) ∧ H' a = some (.lst (bs.map V.ref)) ∧ bs.length = xss.length ∧ St K M0 H0 M' (upd H' a (.lst ((cs bs).map V.ref))) σ (G.set i (.o2 t yss)) := by
  obtain ⟨A0, h10, h20⟩ := S.sl
  obtain ⟨o, q, a, bs, ef, e, h0, hm, hh, n1, n2, pr⟩ := h10 i _ h
  subst e
  have hl := pr.length
  have old : ∀ x ∈ a :: bs, H x ≠ none := fun x hx => by
    rcases List.mem_cons.mp hx with rfl | hx
    · rw [hh]; simp
    · obtain ⟨j, hj⟩ := List.getElem?_of_mem hx
      obtain ⟨_, _, _, _, vs', hv', _⟩ := paired_get' pr hj
      rw [hv']; simp
  have pa : p ≠ a := fun z => old a (by simp) (by rw [← z]; exact hp)
  have pb : p ∉ bs := fun z => old p (by simp [z]) hp
  obtain ⟨c1, c2⟩ := hc bs hl n2 pb
  have ma' : M' a = none := n.fr a hm (by rw [hh]; simp)
  have hh' := n.ex _ _ hh
  refine ⟨a, bs, q, hh', hl, ?_⟩
  rw [← S.value q]
  refine S.change (fp := a :: cs bs) (nx_upd (S.nx.trans n) h0 ma') (fun _ A h1 h2 l t' nj e' o' x hx hx2 => ?_) (fun A h1 h2 l t' o' nj e' r => ?_) ⟨a, cs bs, rfl, rfl, h0, ma', upd_same, fun z => ?_, c1, ?_⟩
  · obtain ⟨o2, q2, a2, bs2, ef2, e2, _, _, hh2, _⟩ := h1 i _ h
    rw [q] at q2; cases q2; cases e2
    rw [hh] at hh2
    have eb2 : bs = bs2 := by
      have := Option.some.inj hh2
      injection this with this
      exact refs_inj this
    subst eb2
    rcases List.mem_cons.mp hx2 with rfl | hx2
    · exact h2 l i _ _ e' h o' rfl nj x hx (by rw [ef2]; simp)
    · rcases c2 x hx2 with rfl | hx3
      · obtain ⟨_, _, r⟩ := h1 l t' e'
        obtain ⟨_, _, qq⟩ := r.there o' x hx
        rw [hp] at qq
        rcases qq with ⟨_, qq⟩ | ⟨_, _, _, qq⟩ <;> cases qq
      · exact h2 l i _ _ e' h o' rfl nj x hx (by rw [ef2]; simp [hx3])
  · have r' := r.next n
    by_cases ho : t'.own = true
    · obtain ⟨o2, q2, a2, bs2, ef2, e2, _⟩ := h1 i _ h
      rw [q] at q2; cases q2; cases e2
      exact r'.keep (fun x hx => upd_ne (fun z => h2 l i _ _ e' h ho rfl nj x hx (by rw [ef2, z]; simp))) (own_upd hh' (fun _ => by simp))
    · cases t' with
      | un => trivial
      | vl t x => exact r'
      | ow _ _ => exact absurd rfl ho
      | o2 _ _ => exact absurd rfl ho
      | ob _ _ _ _ => exact absurd rfl ho
  · rcases c2 a z with z | z
    · exact pa z.symm
    · exact n1 z
  · have p2 : OwnL K t H0 M' (upd H' a (.lst ((cs bs).map V.ref))) p xs := ⟨S.nx.ex.free hp, mp, vs, by rw [upd_ne pa]; exact hv, hr⟩
    have key2 : ∀ {cs' : List Addr} {yss : List (List α)}, (∀ x ∈ cs', x ≠ a) → Paired (OwnL K t H0 M H) cs' yss → Paired (OwnL K t H0 M' (upd H' a (.lst ((cs bs).map V.ref)))) cs' yss := by
      intro cs' yss kk qq
      induction qq with
      | nil => exact .nil
      | cons r _ ih => exact .cons ((r.next n).keep (upd_ne (kk _ (by simp)))) (ih fun x hx => kk x (by simp [hx]))
    exact hc2 p2 (key2 (fun x hx z => n1 (by rw [← z]; exact hx)) pr)
def upds (M : Hp) (H : Hp) (bs : List Addr) : Hp := fun b => if b ∈ bs then H b else M b
/-- it is frozen, with all its lists -/
theorem St.freeze2 {α : Type} {t : Ty α} {xss : List (List α)} {i : Nat} (S : St K M0 H0 M H σ G) (h : G[i]? = some (.o2 t xss)) :
    ∃ fp : List Addr, (∀ x ∈ fp, M x = none ∧ H0 x = none ∧ ∃ vs, H x = some (.lst vs)) ∧ St K M0 H0 (upds M H fp) H σ (G.set i (.vl (tLst (tLst t)) xss)) := by
  obtain ⟨A0, h10, h20⟩ := S.sl
  obtain ⟨o, q, a, bs, ef, e, h0, hm, hh, n1, n2, p⟩ := h10 i _ h
  subst e
  have th := fun x hx => (h10 i _ h).elim fun o' z => z.2.there rfl x hx
  rw [ef] at th
  have allL : ∀ x ∈ a :: bs, M x = none ∧ H0 x = none ∧ ∃ vs, H x = some (.lst vs) := fun x hx => by
    rcases List.mem_cons.mp hx with rfl | hx
    · exact ⟨hm, h0, _, hh⟩
    · obtain ⟨j, hj⟩ := List.getElem?_of_mem hx
      obtain ⟨_, _, b0, bm, vs', hv', _⟩ := paired_get' p hj
      exact ⟨bm, b0, vs', hv'⟩
  have mm : Same M (upds M H (a :: bs)) := fun b u e => by
    unfold upds
    by_cases z : b ∈ a :: bs
    · rw [(allL b z).1] at e; cases e
    · rw [if_neg z]; exact e
  refine ⟨a :: bs, allL, ?_⟩
  rw [← S.value q]
  refine S.change (fp := []) ⟨S.nx.ex, S.nx.vx.trans mm, fun b u e => ?_, fun b n1 n2 => ?_⟩ (fun h => by cases h) (fun A h1 h2 j t' o' nj e' r => ?_) ⟨.ref a, rfl, a, bs.map V.ref, rfl, ?_, ?_⟩
  · unfold upds at e
    by_cases z : b ∈ a :: bs
    · rw [if_pos z] at e; exact e
    · rw [if_neg z] at e; exact S.sub b u e
  · unfold upds
    by_cases z : b ∈ a :: bs
    · exact absurd (allL b z).2.1 n2
    · rw [if_neg z]; exact S.nx.fr b n1 n2
  · by_cases ho : t'.own = true
    · obtain ⟨o2, q2, a2, bs2, ef2, e2, _, _, hh2, _⟩ := h1 i _ h
      rw [q] at q2; cases q2; cases e2
      rw [hh] at hh2
      have eb2 : bs = bs2 := by
        have := Option.some.inj hh2
        injection this with this
        exact refs_inj this
      subst eb2
      refine r.vw mm (fun x hx => ?_) (fun d p e md => ?_)
      · unfold upds
        rw [if_neg (fun z => h2 j i _ _ e' h ho rfl nj x hx (by rw [ef2]; exact z))]
        exact (r.there ho x hx).2.1
      · unfold upds
        rw [if_neg (fun z => by obtain ⟨_, _, vs, hv⟩ := allL d z; rw [e] at hv; cases hv)]
        exact md
    · cases t' with
      | un => trivial
      | vl t x => obtain ⟨v, r1, r2⟩ := r; exact ⟨v, r1, t.ext mm r2⟩
      | ow _ _ => exact absurd rfl ho
      | o2 _ _ => exact absurd rfl ho
      | ob _ _ _ _ => exact absurd rfl ho
  · unfold upds; rw [if_pos (by simp)]; exact hh
  · have key : ∀ {cs : List Addr} {yss : List (List α)}, (∀ x ∈ cs, x ∈ a :: bs) → Paired (OwnL K t H0 M H) cs yss → Paired ((tLst t).rep K (upds M H (a :: bs))) (cs.map V.ref) yss := by
      intro cs yss kk qq
      induction qq with
      | nil => exact .nil
      | cons r _ ih =>
        obtain ⟨_, _, vs, hv, pr⟩ := r
        exact .cons ⟨_, vs, rfl, by unfold upds; rw [if_pos (kk _ (by simp))]; exact hv, paired_imp (fun _ _ z => t.ext mm z) pr⟩ (ih fun x hx => kk x (by simp [hx]))
    exact key (fun x hx => by simp [hx]) p
/-- the view at hand as the one to start from -/
theorem St.rebase (S : St K M0 H0 M H σ G) : St K M H0 M H σ G :=
  ⟨⟨S.nx.ex, Same.refl _, S.nx.sub, fun _ q _ => q⟩, S.len, S.sl⟩
theorem Nx.unbase {M1 H1 : Hp} (n : Nx M0 H0 M1 H1) (m : Nx M1 H0 M H) : Nx M0 H0 M H := ⟨m.ex, n.vx.trans m.vx, m.sub, fun a q r => m.fr a (n.fr a q r) r⟩
theorem St.unbase {M1 H1 : Hp} (S : St K M1 H0 M H σ G) (n : Nx M0 H0 M1 H1) : St K M0 H0 M H σ G := ⟨n.unbase S.nx, S.len, S.sl⟩
def wipeG (G : List Sl) : List Nat → List Sl
  | [] => G
  | v :: vs => (wipeG G vs).set v .un
theorem St.wipe (S : St K M0 H0 M H σ G) : ∀ vs : List Nat, St K M0 H0 M H (L2.wipe σ vs) (wipeG G vs)
  | [] => S
  | v :: vs => (St.wipe S vs).drop
/-- less is said -/
inductive Sub : List Sl → List Sl → Prop where
  | nil : Sub [] []
  | same {s : Sl} {G G' : List Sl} (h : Sub G G') : Sub (s :: G) (s :: G')
  | un {s : Sl} {G G' : List Sl} (h : Sub G G') : Sub (s :: G) (.un :: G')
theorem Sub.len {G G' : List Sl} (h : Sub G G') : G.length = G'.length := by
  induction h with
  | nil => rfl
  | same _ ih => simp [ih]
  | un _ ih => simp [ih]
theorem Sub.get {G G' : List Sl} (h : Sub G G') : ∀ (i : Nat) (s : Sl), G'[i]? = some s → (s = Sl.un ∧ ∃ t, G[i]? = some t) ∨ G[i]? = some s := by
  induction h with
  | nil => intro i s e; simp at e
  | same _ ih =>
    intro i s e
    cases i with
    | zero => exact .inr (by simpa using e)
    | succ i => simpa using ih i s (by simpa using e)
  | un _ ih =>
    intro i s e
    cases i with
    | zero => exact .inl ⟨by simpa using e.symm, _, rfl⟩
    | succ i => simpa using ih i s (by simpa using e)
theorem Sub.refl : ∀ G : List Sl, Sub G G
  | [] => .nil
  | _ :: G => .same (Sub.refl G)
theorem St.weak {G' : List Sl} (S : St K M0 H0 M H σ G) (h : Sub G G') : St K M0 H0 M H σ G' := by
  obtain ⟨A, h1, h2⟩ := S.sl
  refine ⟨S.nx, S.len.trans h.len, A, fun i s e => ?_, fun i j s t e1 e2 o1 o2 => ?_⟩
  · rcases h.get i s e with ⟨rfl, t, q⟩ | q
    · obtain ⟨o, q', _⟩ := h1 i t q
      exact ⟨o, q', trivial⟩
    · exact h1 i s q
  · rcases h.get i s e1 with ⟨rfl, _⟩ | q1
    · cases o1
    · rcases h.get j t e2 with ⟨rfl, _⟩ | q2
      · cases o2
      · exact h2 i j s t q1 q2 o1 o2
end
end TL

namespace TL
open PySem L2

/-! ### judgements -/
section
variable {α β γ : Type}
/-- e is worth x in the context G -/
structure E (X : Cx) (G : List Sl) (e : Expr) (t : Ty α) (x : α) : Prop where
  run : ∀ {M0 H0 M H : Hp} {σ : L2.St}, St X.K M0 H0 M H σ G → ∀ (Q : VK), (∀ v M' H', Nx M H M' H' → t.rep X.K M' v x → Q v H') → wE X e σ H Q
/-- a test -/
structure T (X : Cx) (G : List Sl) (e : Expr) (b : Bool) : Prop where
  run : ∀ {M0 H0 M H : Hp} {σ : L2.St}, St X.K M0 H0 M H σ G → ∀ (Q : Bool → Hp → Prop), (∀ M' H', Nx M H M' H' → Q b H') → wT X e σ H Q
def wW (X : Cx) (e : Expr) : TT := fun σ H Q => ∃ te, PW X e te ∧ te σ H Q
theorem pw_w {X : Cx} {e : Expr} : PW X e (wW X e) := ⟨fun wh pins s σ H Q I ⟨_, p, h⟩ => p.run wh pins s σ H Q I h⟩
structure TW (X : Cx) (G : List Sl) (e : Expr) (b : Bool) : Prop where
  run : ∀ {M0 H0 M H : Hp} {σ : L2.St}, St X.K M0 H0 M H σ G → ∀ (Q : Bool → Hp → Prop), (∀ M' H', Nx M H M' H' → Q b H') → wW X e σ H Q
inductive Reps (K : Fg) (M : Hp) : List V → List Sl → Prop where
  | nil : Reps K M [] []
  | cons {α : Type} {t : Ty α} {x : α} {v : V} {vs : List V} {ss : List Sl} (h : t.rep K M v x) (r : Reps K M vs ss) : Reps K M (v :: vs) (.vl t x :: ss)
/-- arguments -/
structure EA (X : Cx) (G : List Sl) (es : List Expr) (ss : List Sl) : Prop where
  run : ∀ {M0 H0 M H : Hp} {σ : L2.St}, St X.K M0 H0 M H σ G → ∀ (Q : List V → Hp → Prop), (∀ vs M' H', Nx M H M' H' → Reps X.K M' vs ss → Q vs H') → wA X es σ H Q
/-- items of one type -/
structure EH (X : Cx) (G : List Sl) (es : List Expr) (t : Ty α) (xs : List α) : Prop where
  run : ∀ {M0 H0 M H : Hp} {σ : L2.St}, St X.K M0 H0 M H σ G → ∀ (Q : List V → Hp → Prop), (∀ vs M' H', Nx M H M' H' → Paired (t.rep X.K M') vs xs → Q vs H') → wA X es σ H Q
/-- a new list, not yet frozen -/
structure EL (X : Cx) (G : List Sl) (e : Expr) (t : Ty α) (xs : List α) : Prop where
  run : ∀ {M0 H0 M H : Hp} {σ : L2.St}, St X.K M0 H0 M H σ G → ∀ (Q : VK), (∀ p M' H' vs, Nx M H M' H' → H p = none → M' p = none → H' p = some (.lst vs) → Paired (t.rep X.K M') vs xs → Q (.ref p) H') → wE X e σ H Q
end

section
variable {α β γ : Type} {X : Cx} {G : List Sl} {a b c e : Expr} {es rest : List Expr} {s : Ty α} {t : Ty β} {u : Ty γ} {x : α} {y : β} {z : γ} {pos : Pos}

theorem E.is {x' : α} (h : E X G e s x) (q : x = x') : E X G e s x' := q ▸ h
theorem E.as (h : E X G e s x) (q : ∀ M v, s.rep X.K M v x → t.rep X.K M v y) : E X G e t y := ⟨fun S Q k => h.run S Q fun v M' H' n r => k v M' H' n (q M' v r)⟩
theorem E.weak {G' : List Sl} (h : E X G' e s x) (w : Sub G G') : E X G e s x := ⟨fun S Q k => h.run (S.weak w) Q k⟩
theorem EL.toE {xs : List α} (h : EL X G e s xs) : E X G e (tLst s) xs := ⟨fun S Q k => h.run S Q fun p M' H' vs n hp mp hh r =>
  k (.ref p) (upd M' p (.lst vs)) H' ⟨n.ex, n.vx.trans (same_new mp), fun b o q => by
    by_cases z : b = p
    · subst z; rw [upd_same] at q; cases q; exact hh
    · rw [upd_ne z] at q; exact n.sub b o q, fun b n1 n2 => by
    rw [upd_ne (fun z => n2 (by rw [z]; exact hp))]; exact n.fr b n1 n2⟩ ⟨p, vs, rfl, upd_same, paired_imp (fun _ _ q => s.ext (same_new mp) q) r⟩⟩

/-! ### names, constants -/
theorem e_var (i : Nat) {n : Str} (h : G[i]? = some (.vl s x) := by rfl) (hN : X.N[i]? = some n := by rfl)
    (hv : Vis X.env.scope n := by first | exact Or.inl rfl | exact Or.inr (Or.inl rfl) | exact Or.inr (Or.inr rfl)) (hd : (n == ("__debug__" : Str)) = false := by decide)
    (hcd : (n == ("__classdict__" : Str)) = false := by decide) : E X G (.Name n pos) s x := ⟨fun {M0 H0 M H σ} S Q k => by
  obtain ⟨v, e, r⟩ := S.get h
  exact ⟨_, pe_var hN hv hd hcd, v, e, k v M H (Nx.refl S.sub) r⟩⟩
theorem e_int {i : Int} {j : Nat} : E X G (.Constant (.int i) j pos) tI i := ⟨fun {M0 H0 M H σ} S Q k => ⟨_, pe_int, k _ M H (Nx.refl S.sub) rfl⟩⟩
theorem e_bl {i : Bool} {j : Nat} : E X G (.Constant (.bool i) j pos) tB i := ⟨fun {M0 H0 M H σ} S Q k => ⟨_, pe_bl, k _ M H (Nx.refl S.sub) rfl⟩⟩
theorem e_non {j : Nat} : E X G (.Constant .none j pos) tN () := ⟨fun {M0 H0 M H σ} S Q k => ⟨_, pe_non, k _ M H (Nx.refl S.sub) rfl⟩⟩
theorem e_str {i : Str} {j : Nat} : E X G (.Constant (.str i) j pos) tS i := ⟨fun {M0 H0 M H σ} S Q k => ⟨_, pe_str, k _ M H (Nx.refl S.sub) rfl⟩⟩
/-- a class as a value -/
def tC : Ty V := ⟨fun _ _ v x => v = x, fun _ h => h⟩
theorem e_ty {n : Str} {nm : String} (hm : X.mg n = none) (hv : bootBuiltins n = some (.type nm) := by decide +kernel) (hg : Gl X n := by rfl) (hn : n ≠ "__name__" := by decide) (hd : (n == ("__debug__" : Str)) = false := by decide) : E X G (.Name n pos) tC (.ty nm) :=
  ⟨fun {M0 H0 M H σ} S Q k => ⟨_, pe_bltn hg hm hv (show RelV (.ty nm) (.type nm) from rfl) hn hd, k _ M H (Nx.refl S.sub) rfl⟩⟩
theorem e_cls {n : Str} {C : Addr} (hm : X.mg n = some (.ref C)) (hg : Gl X n := by rfl) (hd : (n == ("__debug__" : Str)) = false := by decide) : E X G (.Name n pos) tC (.ref C) :=
  ⟨fun {M0 H0 M H σ} S Q k => ⟨_, pe_glob hg hm (show RelV (.ref C) (.ref C) from rfl) hd, k _ M H (Nx.refl S.sub) rfl⟩⟩

/-! ### operators -/
theorem e_op2 {op : Operator} {r : R2} (ho : OpR X (binaryOp op) r) (ha : E X G a s x) (hb : E X G b t y)
    (hr : ∀ (M H : Hp) (v w : V) (Q : VK), Same M H → s.rep X.K M v x → t.rep X.K M w y → (∀ q M' H', Nx M H M' H' → u.rep X.K M' q z → Q q H') → r v w H Q) : E X G (.BinOp a op b pos) u z := ⟨fun S Q k =>
  ⟨_, pe_op ho pe_w pe_w, ha.run S _ fun v M1 H1 n1 r1 => hb.run (S.next n1) _ fun w M2 H2 n2 r2 => hr M2 H2 v w Q n2.sub (s.ext n2.vx r1) r2 fun q M3 H3 n3 r3 => k q M3 H3 ((n1.trans n2).trans n3) r3⟩⟩
/-- .. that makes a new list -/
theorem el_op2 {op : Operator} {r : R2} {zs : List γ} (ho : OpR X (binaryOp op) r) (ha : E X G a s x) (hb : E X G b t y)
    (hr : ∀ (M H : Hp) (v w : V) (Q : VK), Same M H → s.rep X.K M v x → t.rep X.K M w y → (∀ p M' H' vs, Nx M H M' H' → H p = none → M' p = none → H' p = some (.lst vs) → Paired (u.rep X.K M') vs zs → Q (.ref p) H') → r v w H Q) : EL X G (.BinOp a op b pos) u zs := ⟨fun {M0 H0 M H σ} S Q k =>
  ⟨_, pe_op ho pe_w pe_w, ha.run S _ fun v M1 H1 n1 r1 => hb.run (S.next n1) _ fun w M2 H2 n2 r2 => hr M2 H2 v w Q n2.sub (s.ext n2.vx r1) r2 fun p M3 H3 vs n3 hp mp hh r3 => k p M3 H3 vs ((n1.trans n2).trans n3) ((n1.trans n2).ex.free hp) mp hh r3⟩⟩
theorem e_un {op : UnaryOp} {r : V → Hp → VK → Prop} (ho : UnR X (unaryOp op) r) (ha : E X G a s x)
    (hr : ∀ (M H : Hp) (v : V) (Q : VK), Same M H → s.rep X.K M v x → (∀ q M' H', Nx M H M' H' → u.rep X.K M' q z → Q q H') → r v H Q) : E X G (.UnaryOp op a pos) u z := ⟨fun S Q k =>
  ⟨_, pe_un ho pe_w, ha.run S _ fun v M1 H1 n1 r1 => hr M1 H1 v Q n1.sub r1 fun q M3 H3 n3 r3 => k q M3 H3 (n1.trans n3) r3⟩⟩
variable {i j : Int}
theorem e_add (ha : E X G a tI i) (hb : E X G b tI j) : E X G (.BinOp a .Add b pos) tI (i + j) := e_op2 op_add ha hb fun M H v w Q m h1 h2 k => ⟨i, j, h1, h2, k _ M H (Nx.refl m) rfl⟩
theorem e_sub (ha : E X G a tI i) (hb : E X G b tI j) : E X G (.BinOp a .Sub b pos) tI (i - j) := e_op2 op_sub ha hb fun M H v w Q m h1 h2 k => ⟨i, j, h1, h2, k _ M H (Nx.refl m) rfl⟩
theorem e_mulL (ha : E X G a tI i) (hb : E X G b tI j) (h : -18446744073709551616 < i ∧ i < 18446744073709551616) : E X G (.BinOp a .Mult b pos) tI (i * j) := e_op2 op_mul ha hb fun M H v w Q m h1 h2 k => ⟨i, j, h1, h2, .inl h, k _ M H (Nx.refl m) rfl⟩
theorem e_mulR (ha : E X G a tI i) (hb : E X G b tI j) (h : -18446744073709551616 < j ∧ j < 18446744073709551616) : E X G (.BinOp a .Mult b pos) tI (i * j) := e_op2 op_mul ha hb fun M H v w Q m h1 h2 k => ⟨i, j, h1, h2, .inr h, k _ M H (Nx.refl m) rfl⟩
theorem e_mod (ha : E X G a tI i) (hb : E X G b tI j) (h : 0 < j) : E X G (.BinOp a .Mod b pos) tI (i % j) := e_op2 op_mod ha hb fun M H v w Q m h1 h2 k => ⟨i, j, h1, h2, h, k _ M H (Nx.refl m) rfl⟩
theorem e_div (ha : E X G a tI i) (hb : E X G b tI j) (h : 0 < j ∧ j < 1073741824) : E X G (.BinOp a .FloorDiv b pos) tI (i / j) := e_op2 op_fdiv ha hb fun M H v w Q m h1 h2 k => ⟨i, j, h1, h2, h, k _ M H (Nx.refl m) rfl⟩
theorem e_divW (ha : E X G a tI i) (hb : E X G b tI j) (h : 0 < j ∧ j.natAbs < 2 ^ 9000) : E X G (.BinOp a .FloorDiv b pos) tI (i / j) := e_op2 op_fdivW ha hb fun M H v w Q m h1 h2 k => ⟨i, j, h1, h2, wide_div h.1 h.2 (by decide) (by decide), k _ M H (Nx.refl m) rfl⟩
theorem e_pow (ha : E X G a tI i) (hb : E X G b tI j) (h : 0 ≤ j ∧ j ≤ 1000000 ∧ i.natAbs < 2 ^ 64) : E X G (.BinOp a .Pow b pos) tI (i ^ j.toNat) := e_op2 op_pow ha hb fun M H v w Q m h1 h2 k => ⟨i, j, h1, h2, h, k _ M H (Nx.refl m) rfl⟩
theorem e_neg (ha : E X G a tI i) : E X G (.UnaryOp .USub a pos) tI (-i) := e_un un_neg ha fun M H v Q m h1 k => ⟨i, h1, k _ M H (Nx.refl m) rfl⟩
/-- a comparison, as a value and as a test -/
theorem e_cmp {op : CmpOp} {r : R2} {d : Bool} (ho : OpR X (compareOp op) r) (ha : E X G a s x) (hb : E X G b t y)
    (hr : ∀ (M H : Hp) (v w : V) (Q : VK), Same M H → s.rep X.K M v x → t.rep X.K M w y → (∀ M' H', Nx M H M' H' → Q (.bl d) H') → r v w H Q) (hm : behindInMarks op b = false) : E X G (.Compare a [op] [b] pos) tB d := ⟨fun S Q k =>
  ⟨_, pe_cmpR ho pe_w pe_w hm, ha.run S _ fun v M1 H1 n1 r1 => hb.run (S.next n1) _ fun w M2 H2 n2 r2 => hr M2 H2 v w Q n2.sub (s.ext n2.vx r1) r2 fun M3 H3 n3 => k _ M3 H3 ((n1.trans n2).trans n3) rfl⟩⟩
theorem t_cmp {op : CmpOp} {r : R2} {d : Bool} (ho : OpR X (compareOp op) r) (ha : E X G a s x) (hb : E X G b t y)
    (hr : ∀ (M H : Hp) (v w : V) (Q : VK), Same M H → s.rep X.K M v x → t.rep X.K M w y → (∀ M' H', Nx M H M' H' → Q (.bl d) H') → r v w H Q) (hm : behindInMarks op b = false) : T X G (.Compare a [op] [b] pos) d := ⟨fun S Q k =>
  ⟨_, pt_cmpR ho pe_w pe_w hm, ha.run S _ fun v M1 H1 n1 r1 => hb.run (S.next n1) _ fun w M2 H2 n2 r2 => hr M2 H2 v w _ n2.sub (s.ext n2.vx r1) r2 fun M3 H3 n3 => ⟨d, rfl, k M3 H3 ((n1.trans n2).trans n3)⟩⟩⟩
/-- what a comparison of values says -/
structure CmpV (X : Cx) (op : CmpOp) (s : Ty α) (t : Ty β) (x : α) (y : β) (d : Bool) : Prop where
  r : ∃ r : R2, OpR X (compareOp op) r ∧ ∀ (M H : Hp) (v w : V) (Q : VK), Same M H → s.rep X.K M v x → t.rep X.K M w y → (∀ M' H', Nx M H M' H' → Q (.bl d) H') → r v w H Q
theorem e_cv {op : CmpOp} {d : Bool} (ha : E X G a s x) (hb : E X G b t y) (c : CmpV X op s t x y d) (hm : behindInMarks op b = false := by first | exact nomark _ | rfl) : E X G (.Compare a [op] [b] pos) tB d := by
  obtain ⟨r, ho, hr⟩ := c.r
  exact e_cmp ho ha hb hr hm
theorem t_cv {op : CmpOp} {d : Bool} (ha : E X G a s x) (hb : E X G b t y) (c : CmpV X op s t x y d) (hm : behindInMarks op b = false := by first | exact nomark _ | rfl) : T X G (.Compare a [op] [b] pos) d := by
  obtain ⟨r, ho, hr⟩ := c.r
  exact t_cmp ho ha hb hr hm
theorem cv_lt : CmpV X .Lt tI tI i j (decide (i < j)) := ⟨_, op_lt, fun M H v w Q m h1 h2 k => ⟨i, j, h1, h2, k M H (Nx.refl m)⟩⟩
theorem cv_le : CmpV X .LtE tI tI i j (decide (i ≤ j)) := ⟨_, op_le, fun M H v w Q m h1 h2 k => ⟨i, j, h1, h2, k M H (Nx.refl m)⟩⟩
theorem cv_gt : CmpV X .Gt tI tI i j (decide (j < i)) := ⟨_, op_gt, fun M H v w Q m h1 h2 k => ⟨i, j, h1, h2, k M H (Nx.refl m)⟩⟩
theorem cv_ge : CmpV X .GtE tI tI i j (decide (j ≤ i)) := ⟨_, op_ge, fun M H v w Q m h1 h2 k => ⟨i, j, h1, h2, k M H (Nx.refl m)⟩⟩
theorem dec_vint : decide (V.int i = V.int j) = decide (i = j) := by
  by_cases h : i = j
  · subst h; simp
  · rw [decide_eq_false h, decide_eq_false]; intro q; cases q; exact h rfl
theorem dec_vstr {i j : Str} : decide (V.str i = V.str j) = decide (i = j) := by
  by_cases h : i = j
  · subst h; simp
  · rw [decide_eq_false h, decide_eq_false]; intro q; cases q; exact h rfl
theorem dec_vbl {i j : Bool} : decide (V.bl i = V.bl j) = decide (i = j) := by
  by_cases h : i = j
  · subst h; simp
  · rw [decide_eq_false h, decide_eq_false]; intro q; cases q; exact h rfl
theorem cv_eqI : CmpV X .Eq tI tI i j (decide (i = j)) := ⟨_, op_eq, fun M H v w Q m h1 h2 k => by
  cases h1; cases h2; exact ⟨rfl, by rw [dec_vint]; exact k M H (Nx.refl m)⟩⟩
theorem cv_neI : CmpV X .NotEq tI tI i j (!decide (i = j)) := ⟨_, op_ne, fun M H v w Q m h1 h2 k => by
  cases h1; cases h2; exact ⟨rfl, by rw [dec_vint]; exact k M H (Nx.refl m)⟩⟩
theorem cv_eqS {i j : Str} : CmpV X .Eq tS tS i j (decide (i = j)) := ⟨_, op_eq, fun M H v w Q m h1 h2 k => by
  cases h1; cases h2; exact ⟨rfl, by rw [dec_vstr]; exact k M H (Nx.refl m)⟩⟩
theorem cv_neS {i j : Str} : CmpV X .NotEq tS tS i j (!decide (i = j)) := ⟨_, op_ne, fun M H v w Q m h1 h2 k => by
  cases h1; cases h2; exact ⟨rfl, by rw [dec_vstr]; exact k M H (Nx.refl m)⟩⟩
theorem cv_isN {s : Ty α} {x : α} {d : Bool} (h : ∀ M v, s.rep X.K M v x → decide (v = V.non) = d) : CmpV X .Is s tN x () d := ⟨_, op_isN, fun M H v w Q m h1 h2 k => by
  cases h2; exact ⟨rfl, by rw [h M v h1]; exact k M H (Nx.refl m)⟩⟩
theorem cv_isnotN {s : Ty α} {x : α} {d : Bool} (h : ∀ M v, s.rep X.K M v x → decide (v = V.non) = d) : CmpV X .IsNot s tN x () (!d) := ⟨_, op_notN, fun M H v w Q m h1 h2 k => by
  cases h2; exact ⟨rfl, by rw [h M v h1]; exact k M H (Nx.refl m)⟩⟩
/-- two data at any depth -/
theorem cv_eqD {k : Nat} (hr : Room k X.A) {d e : PyData} (sd : SeqAt.shaped d = true) (se : SeqAt.shaped e = true) (hs : ∀ M v, s.rep X.K M v x → Dp X.K M v d) (ht : ∀ M v, t.rep X.K M v y → Dp X.K M v e) : CmpV X .Eq s t x y (PyData.eqv d e) :=
  ⟨_, op_eqD hr.units, fun M H v w Q m h1 h2 k => ⟨d, e, dp_ext m d v (hs M v h1), dp_ext m e w (ht M w h2), sd, se, k M H (Nx.refl m)⟩⟩
theorem cv_neD {k : Nat} (hr : Room k X.A) {d e : PyData} (sd : SeqAt.shaped d = true) (se : SeqAt.shaped e = true) (hs : ∀ M v, s.rep X.K M v x → Dp X.K M v d) (ht : ∀ M v, t.rep X.K M v y → Dp X.K M v e) : CmpV X .NotEq s t x y (!PyData.eqv d e) :=
  ⟨_, op_neD hr.units, fun M H v w Q m h1 h2 k => ⟨d, e, dp_ext m d v (hs M v h1), dp_ext m e w (ht M w h2), sd, se, k M H (Nx.refl m)⟩⟩
/-- a < b < c -/
theorem e_chain {op op' : CmpOp} {d d' : Bool} (ha : E X G a s x) (hb : E X G b t y) (hc : E X G c u z) (c1 : CmpV X op s t x y d) (c2 : d = true → CmpV X op' t u y z d') (h1 : ∀ r r', OpR X (compareOp op) r → OpR X (compareOp op') r' → PE X (.Compare a [op, op'] [b, c] pos) (tChain r r' (wE X a) (wE X b) (wE X c)) := by
    intro r r' h h'; exact pe_chain h h' pe_w pe_w pe_w) (r0 : ∃ r, OpR X (compareOp op') r) : E X G (.Compare a [op, op'] [b, c] pos) tB (d && d') := ⟨fun S Q k => by
  obtain ⟨r, ho, hr⟩ := c1.r
  cases d with
  | true =>
    obtain ⟨r', ho', hr'⟩ := (c2 rfl).r
    refine ⟨_, h1 r r' ho ho', ha.run S _ fun v M1 H1 n1 r1 => hb.run (S.next n1) _ fun w M2 H2 n2 r2 => hr M2 H2 v w _ n2.sub (s.ext n2.vx r1) r2 fun M3 H3 n3 => ⟨true, rfl, ?_⟩⟩
    rw [if_pos rfl]
    exact hc.run (S.next ((n1.trans n2).trans n3)) _ fun q M4 H4 n4 r4 => hr' M4 H4 w q Q n4.sub (t.ext (n3.vx.trans n4.vx) r2) r4 fun M5 H5 n5 => k _ M5 H5 ((((n1.trans n2).trans n3).trans n4).trans n5) rfl
  | false =>
    obtain ⟨r', ho'⟩ := r0
    refine ⟨_, h1 r r' ho ho', ha.run S _ fun v M1 H1 n1 r1 => hb.run (S.next n1) _ fun w M2 H2 n2 r2 => hr M2 H2 v w _ n2.sub (s.ext n2.vx r1) r2 fun M3 H3 n3 => ⟨false, rfl, ?_⟩⟩
    rw [if_neg (by decide)]
    exact k _ M3 H3 ((n1.trans n2).trans n3) rfl⟩
theorem t_chain {op op' : CmpOp} {d d' : Bool} (ha : E X G a s x) (hb : E X G b t y) (hc : E X G c u z) (c1 : CmpV X op s t x y d) (c2 : d = true → CmpV X op' t u y z d') (h1 : ∀ r r', OpR X (compareOp op) r → OpR X (compareOp op') r' → PT X (.Compare a [op, op'] [b, c] pos) (tTest (tChain r r' (wE X a) (wE X b) (wE X c))) := by
    intro r r' h h'; exact pt_chain h h' pe_w pe_w pe_w) (r0 : ∃ r, OpR X (compareOp op') r) : T X G (.Compare a [op, op'] [b, c] pos) (d && d') := ⟨fun S Q k => by
  obtain ⟨r, ho, hr⟩ := c1.r
  cases d with
  | true =>
    obtain ⟨r', ho', hr'⟩ := (c2 rfl).r
    refine ⟨_, h1 r r' ho ho', ha.run S _ fun v M1 H1 n1 r1 => hb.run (S.next n1) _ fun w M2 H2 n2 r2 => hr M2 H2 v w _ n2.sub (s.ext n2.vx r1) r2 fun M3 H3 n3 => ⟨true, rfl, ?_⟩⟩
    rw [if_pos rfl]
    exact hc.run (S.next ((n1.trans n2).trans n3)) _ fun q M4 H4 n4 r4 => hr' M4 H4 w q _ n4.sub (t.ext (n3.vx.trans n4.vx) r2) r4 fun M5 H5 n5 => ⟨_, rfl, k M5 H5 ((((n1.trans n2).trans n3).trans n4).trans n5)⟩
  | false =>
    obtain ⟨r', ho'⟩ := r0
    refine ⟨_, h1 r r' ho ho', ha.run S _ fun v M1 H1 n1 r1 => hb.run (S.next n1) _ fun w M2 H2 n2 r2 => hr M2 H2 v w _ n2.sub (s.ext n2.vx r1) r2 fun M3 H3 n3 => ⟨false, rfl, ?_⟩⟩
    rw [if_neg (by decide)]
    exact ⟨_, rfl, k M3 H3 ((n1.trans n2).trans n3)⟩⟩

/-! ### truth -/
variable {p q : Bool}
theorem t_val (h : E X G e tB p) (he : ∀ whole, isTrue e X.env whole = (do let v ← whole; standAt e.pos; holding [v] (truthy v)) := by intro _; rfl) : T X G e p := ⟨fun S Q k =>
  ⟨_, pt_val pe_w he, h.run S _ fun v M1 H1 n1 r1 => ⟨p, r1, k M1 H1 n1⟩⟩⟩
theorem TW.toT (h : TW X G e p) : T X G e p := ⟨fun S Q k => ⟨_, pw_w.pt, h.run S Q k⟩⟩
theorem w_and1 (h : T X G a p) : TW X G (.BoolOp .And [a] pos) p := ⟨fun S Q k => ⟨_, pw_and1 pt_w, h.run S Q k⟩⟩
theorem w_or1 (h : T X G a p) : TW X G (.BoolOp .Or [a] pos) p := ⟨fun S Q k => ⟨_, pw_or1 pt_w, h.run S Q k⟩⟩
theorem w_and (h : T X G a p) (h2 : p = true → TW X G (.BoolOp .And (b :: rest) pos) q) : TW X G (.BoolOp .And (a :: b :: rest) pos) (p && q) := ⟨fun S Q k =>
  ⟨_, pw_and pt_w pw_w, h.run S _ fun M1 H1 n1 => by
    cases p with
    | true => rw [if_pos rfl]; exact (h2 rfl).run (S.next n1) _ fun M2 H2 n2 => k M2 H2 (n1.trans n2)
    | false => rw [if_neg (by decide)]; exact k M1 H1 n1⟩⟩
theorem w_or (h : T X G a p) (h2 : p = false → TW X G (.BoolOp .Or (b :: rest) pos) q) : TW X G (.BoolOp .Or (a :: b :: rest) pos) (p || q) := ⟨fun S Q k =>
  ⟨_, pw_or pt_w pw_w, h.run S _ fun M1 H1 n1 => by
    cases p with
    | false => rw [if_neg (by decide)]; exact (h2 rfl).run (S.next n1) _ fun M2 H2 n2 => k M2 H2 (n1.trans n2)
    | true => rw [if_pos rfl]; exact k M1 H1 n1⟩⟩
theorem t_not (h : T X G a p) : T X G (.UnaryOp .Not a pos) (!p) := ⟨fun S Q k => ⟨_, pt_not pt_w, h.run S _ fun M1 H1 n1 => k M1 H1 n1⟩⟩
theorem e_one {op} (h : E X G a tB p) : E X G (.BoolOp op [a] pos) tB p := ⟨fun S Q k => ⟨_, pe_one pe_w, h.run S Q k⟩⟩
theorem e_and (h : E X G a tB p) (h2 : p = true → E X G (.BoolOp .And (b :: rest) pos) tB q) : E X G (.BoolOp .And (a :: b :: rest) pos) tB (p && q) := ⟨fun S Q k =>
  ⟨_, pe_and pe_w pe_w, h.run S _ fun v M1 H1 n1 r1 => ⟨p, r1, by
    cases p with
    | true => rw [if_pos rfl]; exact (h2 rfl).run (S.next n1) _ fun v M2 H2 n2 r2 => k v M2 H2 (n1.trans n2) r2
    | false => rw [if_neg (by decide)]; exact k _ M1 H1 n1 rfl⟩⟩⟩
theorem e_or (h : E X G a tB p) (h2 : p = false → E X G (.BoolOp .Or (b :: rest) pos) tB q) : E X G (.BoolOp .Or (a :: b :: rest) pos) tB (p || q) := ⟨fun S Q k =>
  ⟨_, pe_or pe_w pe_w, h.run S _ fun v M1 H1 n1 r1 => ⟨p, r1, by
    cases p with
    | false => rw [if_neg (by decide)]; exact (h2 rfl).run (S.next n1) _ fun v M2 H2 n2 r2 => k v M2 H2 (n1.trans n2) r2
    | true => rw [if_pos rfl]; exact k _ M1 H1 n1 rfl⟩⟩⟩
theorem e_not (h : E X G a tB p) : E X G (.UnaryOp .Not a pos) tB (!p) := ⟨fun S Q k => ⟨_, pe_not pe_w, h.run S _ fun v M1 H1 n1 r1 => ⟨p, r1, k _ M1 H1 n1 rfl⟩⟩⟩
theorem e_if {x y : α} (h : T X G c p) (h1 : p = true → E X G a s x) (h2 : p = false → E X G b s y) : E X G (.IfExp c a b pos) s (if p = true then x else y) := ⟨fun S Q k =>
  ⟨_, pe_ifExp pt_w pe_w pe_w, h.run S _ fun M1 H1 n1 => by
    cases p with
    | true => rw [if_pos rfl] at *; exact (h1 rfl).run (S.next n1) _ fun v M2 H2 n2 r2 => k v M2 H2 (n1.trans n2) r2
    | false => rw [if_neg (by decide)] at *; exact (h2 rfl).run (S.next n1) _ fun v M2 H2 n2 r2 => k v M2 H2 (n1.trans n2) r2⟩⟩

/-! ### arguments, displays -/
variable {ss : List Sl} {xs ys : List α}
theorem ea_nil : EA X G [] [] := ⟨fun {M0 H0 M H σ} S Q k => ⟨_, pa_nil, k [] M H (Nx.refl S.sub) .nil⟩⟩
theorem reps_ext {K : Fg} {M M' : Hp} (e : Same M M') : ∀ {vs : List V} {ss : List Sl}, Reps K M vs ss → Reps K M' vs ss
  | _, _, .nil => .nil
  | _, _, .cons h t => .cons (Ty.ext _ e h) (reps_ext e t)
theorem ea_cons (h : E X G e s x) (hr : EA X G es ss) (hs : starEach (e :: es) X.env = (false, eval e X.env) :: starEach es X.env := by rfl) : EA X G (e :: es) (.vl s x :: ss) := ⟨fun S Q k =>
  ⟨_, pa_cons pe_w pa_w hs, h.run S _ fun v M1 H1 n1 r1 => hr.run (S.next n1) _ fun vs M2 H2 n2 r2 => k _ M2 H2 (n1.trans n2) (.cons (s.ext n2.vx r1) r2)⟩⟩
theorem eh_nil : EH X G [] s [] := ⟨fun {M0 H0 M H σ} S Q k => ⟨_, pa_nil, k [] M H (Nx.refl S.sub) .nil⟩⟩
theorem eh_cons (h : E X G e s x) (hr : EH X G es s xs) (hs : starEach (e :: es) X.env = (false, eval e X.env) :: starEach es X.env := by rfl) : EH X G (e :: es) s (x :: xs) := ⟨fun S Q k =>
  ⟨_, pa_cons pe_w pa_w hs, h.run S _ fun v M1 H1 n1 r1 => hr.run (S.next n1) _ fun vs M2 H2 n2 r2 => k _ M2 H2 (n1.trans n2) (.cons (s.ext n2.vx r1) r2)⟩⟩
theorem paired_same {F G' : V → α → Prop} {vs : List V} {xs : List α} (h : Paired F vs xs) (f : ∀ a b, F a b → G' a b) : Paired G' vs xs := paired_imp f h
theorem e_tup {n : Nat} (h : EH X G es s xs) (hl : xs.length ≤ 1000000 := by first | decide | simp) : E X G (.Tuple es n pos) (tTup s) xs := ⟨fun S Q k =>
  ⟨_, pe_tup pa_w, h.run S _ fun vs M1 H1 n1 r1 => ⟨by rw [r1.length]; exact Nat.le_trans hl (by decide), fun p hp =>
    k _ _ _ (n1.trans (Nx.new n1.sub hp)) ⟨p, vs, rfl, .inl (.inl upd_same), paired_imp (fun _ _ q => s.ext (same_new (same_none n1.sub hp)) q) r1⟩⟩⟩⟩
theorem el_lst (h : EH X G es s xs) (hl : xs.length ≤ 1000000 := by first | decide | simp) : EL X G (.List es pos) s xs := ⟨fun {M0 H0 M H σ} S Q k =>
  ⟨_, pe_lst pa_w, h.run S _ fun vs M1 H1 n1 r1 => ⟨by rw [r1.length]; exact Nat.le_trans hl (by decide), fun p hp =>
    k p M1 _ vs ⟨n1.ex.trans (same_new hp), n1.vx, n1.sub.trans (same_new hp), n1.fr⟩ (n1.ex.free hp) (same_none n1.sub hp) upd_same r1⟩⟩⟩
theorem e_p2 {n : Nat} (ha : E X G a s x) (hb : E X G b t y) (hs : starEach [a, b] X.env = (false, eval a X.env) :: starEach [b] X.env := by rfl) (hs2 : starEach [b] X.env = (false, eval b X.env) :: starEach [] X.env := by rfl) : E X G (.Tuple [a, b] n pos) (tP2 s t) (x, y) := ⟨fun S Q k =>
  ⟨_, pe_tup (pa_cons pe_w (pa_cons pe_w pa_nil hs2) hs), ha.run S _ fun v M1 H1 n1 r1 => hb.run (S.next n1) _ fun w M2 H2 n2 r2 => ⟨by show 2 ≤ sizeLine; decide, fun p hp => by
    have nn := Nx.new (o := .tup [v, w]) n2.sub hp
    exact k _ _ _ ((n1.trans n2).trans nn) ⟨p, v, w, rfl, .inl (.inl upd_same), s.ext (n2.vx.trans nn.vx) r1, t.ext nn.vx r2⟩⟩⟩⟩
theorem e_p3 {n : Nat} (ha : E X G a s x) (hb : E X G b t y) (hc : E X G c u z) (hs : starEach [a, b, c] X.env = (false, eval a X.env) :: starEach [b, c] X.env := by rfl) (hs2 : starEach [b, c] X.env = (false, eval b X.env) :: starEach [c] X.env := by rfl) (hs3 : starEach [c] X.env = (false, eval c X.env) :: starEach [] X.env := by rfl) : E X G (.Tuple [a, b, c] n pos) (tP3 s t u) (x, y, z) := ⟨fun S Q k =>
  ⟨_, pe_tup (pa_cons pe_w (pa_cons pe_w (pa_cons pe_w pa_nil hs3) hs2) hs), ha.run S _ fun v M1 H1 n1 r1 => hb.run (S.next n1) _ fun w M2 H2 n2 r2 => hc.run (S.next (n1.trans n2)) _ fun w3 M3 H3 n3 r3 => ⟨by show 3 ≤ sizeLine; decide, fun p hp => by
    have nn := Nx.new (o := .tup [v, w, w3]) n3.sub hp
    exact k _ _ _ (((n1.trans n2).trans n3).trans nn) ⟨p, v, w, w3, rfl, .inl (.inl upd_same), s.ext ((n2.vx.trans n3.vx).trans nn.vx) r1, t.ext (n3.vx.trans nn.vx) r2, u.ext nn.vx r3⟩⟩⟩⟩
theorem e_p4 {δ : Type} {t4 : Ty δ} {w0 : δ} {d : Expr} {n : Nat} (ha : E X G a s x) (hb : E X G b t y) (hc : E X G c u z) (hd : E X G d t4 w0) (hs : starEach [a, b, c, d] X.env = (false, eval a X.env) :: starEach [b, c, d] X.env := by rfl) (hs2 : starEach [b, c, d] X.env = (false, eval b X.env) :: starEach [c, d] X.env := by rfl) (hs3 : starEach [c, d] X.env = (false, eval c X.env) :: starEach [d] X.env := by rfl) (hs4 : starEach [d] X.env = (false, eval d X.env) :: starEach [] X.env := by rfl) : E X G (.Tuple [a, b, c, d] n pos) (tP4 s t u t4) (x, y, z, w0) := ⟨fun S Q k =>
  ⟨_, pe_tup (pa_cons pe_w (pa_cons pe_w (pa_cons pe_w (pa_cons pe_w pa_nil hs4) hs3) hs2) hs), ha.run S _ fun v M1 H1 n1 r1 => hb.run (S.next n1) _ fun w M2 H2 n2 r2 => hc.run (S.next (n1.trans n2)) _ fun w3 M3 H3 n3 r3 => hd.run (S.next ((n1.trans n2).trans n3)) _ fun w4 M4 H4 n4 r4 => ⟨by show 4 ≤ sizeLine; decide, fun p hp => by
    have nn := Nx.new (o := .tup [v, w, w3, w4]) n4.sub hp
    exact k _ _ _ ((((n1.trans n2).trans n3).trans n4).trans nn) ⟨p, v, w, w3, w4, rfl, .inl (.inl upd_same), s.ext (((n2.vx.trans n3.vx).trans n4.vx).trans nn.vx) r1, t.ext ((n3.vx.trans n4.vx).trans nn.vx) r2, u.ext (n4.vx.trans nn.vx) r3, t4.ext nn.vx r4⟩⟩⟩⟩
end
end TL

namespace TL
open PySem L2

/-! ### lists as they are indexed and cut -/
section
variable {α β : Type}
/-- xs[i], any sign -/
def ix [Inhabited α] (xs : List α) (i : Int) : α := (atI xs i).getD default
theorem atI_pos {xs : List α} {i : Int} (h0 : 0 ≤ i) (h1 : i < xs.length) : ∃ x, xs[i.toNat]? = some x ∧ atI xs i = some x := by
  have hl : i.toNat < xs.length := by omega
  refine ⟨xs[i.toNat], List.getElem?_eq_getElem hl, ?_⟩
  have := atI_nat (List.getElem?_eq_getElem hl)
  rw [Int.toNat_of_nonneg h0] at this
  exact this
theorem atI_neg {xs : List α} {i : Int} (h0 : i < 0) (h1 : -(xs.length : Int) ≤ i) : ∃ x, xs[(i + xs.length).toNat]? = some x ∧ atI xs i = some x := by
  have hl : (i + xs.length).toNat < xs.length := by omega
  refine ⟨xs[(i + xs.length).toNat], List.getElem?_eq_getElem hl, ?_⟩
  unfold atI ixN
  rw [if_neg (by omega), if_pos h1]
  simp only [Option.bind_some]
  exact List.getElem?_eq_getElem hl
theorem atI_ix [Inhabited α] {xs : List α} {i : Int} (h0 : -(xs.length : Int) ≤ i) (h1 : i < xs.length) : atI xs i = some (ix xs i) := by
  unfold ix
  rcases Int.lt_or_le i 0 with h | h
  · obtain ⟨x, _, q⟩ := atI_neg h h0; rw [q]; rfl
  · obtain ⟨x, _, q⟩ := atI_pos h h1; rw [q]; rfl
theorem ix_pos [Inhabited α] {xs : List α} {i : Int} (h0 : 0 ≤ i) (h1 : i < xs.length) : xs[i.toNat]? = some (ix xs i) := by
  obtain ⟨x, q1, q2⟩ := atI_pos h0 h1
  unfold ix; rw [q2, q1]; rfl
theorem ix_mem [Inhabited α] {xs : List α} {i : Int} (h0 : 0 ≤ i) (h1 : i < xs.length) : ix xs i ∈ xs := List.mem_of_getElem? (ix_pos h0 h1)
theorem atI_paired {F : V → α → Prop} {vs : List V} {xs : List α} {i : Int} {x : α} (p : Paired F vs xs) (h : atI xs i = some x) : ∃ v, atI vs i = some v ∧ F v x := by
  unfold atI at h ⊢
  rw [p.length]
  cases e : ixN xs.length i with
  | none => rw [e] at h; cases h
  | some j =>
    rw [e] at h
    obtain ⟨v, h1, h2⟩ := paired_get p (show xs[j]? = some x from h)
    exact ⟨v, h1, h2⟩
/-- xs[lo:hi] -/
def cut (xs : List α) (lo hi : Option Int) : List α := (xs.drop (HT.sIx xs.length 0 lo)).take (HT.sIx xs.length xs.length hi - HT.sIx xs.length 0 lo)
theorem cut_paired {F : V → α → Prop} {vs : List V} {xs : List α} (lo hi : Option Int) (p : Paired F vs xs) : Paired F (cutV vs lo hi) (cut xs lo hi) := by
  unfold cutV cut
  rw [p.length]
  exact paired_take _ (paired_drop _ p)
end

section
variable {α β γ : Type} {X : Cx} {G : List Sl} {a b c e : Expr} {es rest : List Expr} {s : Ty α} {t : Ty β} {u : Ty γ} {x : α} {y : β} {z : γ} {pos : Pos} {i j : Int} {xs ys : List α} {p q : Bool}
/-! ### subscripts -/
theorem e_ixT (ha : E X G a (tTup s) xs) (hb : E X G b tI i) (h : atI xs i = some x) (hs : PlainIx b := by exact fun _ _ => rfl) : E X G (.Subscript a b pos) s x := ⟨fun S Q k =>
  ⟨_, pe_ix ix_tup pe_w pe_w hs, ha.run S _ fun v M1 H1 n1 r1 => hb.run (S.next n1) _ fun w M2 H2 n2 r2 => by
    obtain ⟨p, vs, e1, e2, e3⟩ := r1
    obtain ⟨v', g1, g2⟩ := atI_paired e3 h
    exact ⟨p, vs, i, v', e1, r2, sqT_ext (n2.vx.trans n2.sub) e2, g1, k v' M2 H2 (n1.trans n2) (s.ext n2.vx g2)⟩⟩⟩
theorem e_ixL (ha : E X G a (tLst s) xs) (hb : E X G b tI i) (h : atI xs i = some x) (hs : PlainIx b := by exact fun _ _ => rfl) : E X G (.Subscript a b pos) s x := ⟨fun S Q k =>
  ⟨_, pe_ix ix_list pe_w pe_w hs, ha.run S _ fun v M1 H1 n1 r1 => hb.run (S.next n1) _ fun w M2 H2 n2 r2 => by
    obtain ⟨p, vs, e1, e2, e3⟩ := r1
    obtain ⟨v', g1, g2⟩ := atI_paired e3 h
    exact ⟨p, vs, i, v', e1, r2, SqL.of (n2.sub _ _ (n2.vx _ _ e2)), g1, k v' M2 H2 (n1.trans n2) (s.ext n2.vx g2)⟩⟩⟩
theorem e_ixS (ha : E X G a (tSq s) xs) (hb : E X G b tI i) (h : atI xs i = some x) (hs : PlainIx b := by exact fun _ _ => rfl) : E X G (.Subscript a b pos) s x := ⟨fun S Q k =>
  ⟨_, pe_ix ix_list pe_w pe_w hs, ha.run S _ fun v M1 H1 n1 r1 => hb.run (S.next n1) _ fun w M2 H2 n2 r2 => by
    obtain ⟨p, vs, e1, e2, e3⟩ := r1
    obtain ⟨v', g1, g2⟩ := atI_paired e3 h
    exact ⟨p, vs, i, v', e1, r2, sqL_ext (n2.vx.trans n2.sub) e2, g1, k v' M2 H2 (n1.trans n2) (s.ext n2.vx g2)⟩⟩⟩
theorem e_2a {w : α × β} (ha : E X G a (tP2 s t) w) (hb : E X G b tI 0) (hs : PlainIx b := by exact fun _ _ => rfl) : E X G (.Subscript a b pos) s w.1 := ⟨fun S Q k =>
  ⟨_, pe_ix ix_tup pe_w pe_w hs, ha.run S _ fun v M1 H1 n1 r1 => hb.run (S.next n1) _ fun w M2 H2 n2 r2 => by
    obtain ⟨p, v1, v2, e1, e2, e3, e4⟩ := r1
    exact ⟨p, _, 0, v1, e1, r2, sqT_ext (n2.vx.trans n2.sub) e2, rfl, k v1 M2 H2 (n1.trans n2) (s.ext n2.vx e3)⟩⟩⟩
theorem e_2b {w : α × β} (ha : E X G a (tP2 s t) w) (hb : E X G b tI 1) (hs : PlainIx b := by exact fun _ _ => rfl) : E X G (.Subscript a b pos) t w.2 := ⟨fun S Q k =>
  ⟨_, pe_ix ix_tup pe_w pe_w hs, ha.run S _ fun v M1 H1 n1 r1 => hb.run (S.next n1) _ fun w M2 H2 n2 r2 => by
    obtain ⟨p, v1, v2, e1, e2, e3, e4⟩ := r1
    exact ⟨p, _, 1, v2, e1, r2, sqT_ext (n2.vx.trans n2.sub) e2, rfl, k v2 M2 H2 (n1.trans n2) (t.ext n2.vx e4)⟩⟩⟩
theorem e_4a {δ : Type} {t4 : Ty δ} {w : α × β × γ × δ} (ha : E X G a (tP4 s t u t4) w) (hb : E X G b tI 0) (hs : PlainIx b := by exact fun _ _ => rfl) : E X G (.Subscript a b pos) s w.1 := ⟨fun S Q k =>
  ⟨_, pe_ix ix_tup pe_w pe_w hs, ha.run S _ fun v M1 H1 n1 r1 => hb.run (S.next n1) _ fun w' M2 H2 n2 r2 => by
    obtain ⟨p, v1, v2, v3, v4, e1, e2, e3, e4, e5, e6⟩ := r1
    exact ⟨p, _, 0, v1, e1, r2, sqT_ext (n2.vx.trans n2.sub) e2, rfl, k v1 M2 H2 (n1.trans n2) (s.ext n2.vx e3)⟩⟩⟩
theorem e_4b {δ : Type} {t4 : Ty δ} {w : α × β × γ × δ} (ha : E X G a (tP4 s t u t4) w) (hb : E X G b tI 1) (hs : PlainIx b := by exact fun _ _ => rfl) : E X G (.Subscript a b pos) t w.2.1 := ⟨fun S Q k =>
  ⟨_, pe_ix ix_tup pe_w pe_w hs, ha.run S _ fun v M1 H1 n1 r1 => hb.run (S.next n1) _ fun w' M2 H2 n2 r2 => by
    obtain ⟨p, v1, v2, v3, v4, e1, e2, e3, e4, e5, e6⟩ := r1
    exact ⟨p, _, 1, v2, e1, r2, sqT_ext (n2.vx.trans n2.sub) e2, rfl, k v2 M2 H2 (n1.trans n2) (t.ext n2.vx e4)⟩⟩⟩
theorem e_4c {δ : Type} {t4 : Ty δ} {w : α × β × γ × δ} (ha : E X G a (tP4 s t u t4) w) (hb : E X G b tI 2) (hs : PlainIx b := by exact fun _ _ => rfl) : E X G (.Subscript a b pos) u w.2.2.1 := ⟨fun S Q k =>
  ⟨_, pe_ix ix_tup pe_w pe_w hs, ha.run S _ fun v M1 H1 n1 r1 => hb.run (S.next n1) _ fun w' M2 H2 n2 r2 => by
    obtain ⟨p, v1, v2, v3, v4, e1, e2, e3, e4, e5, e6⟩ := r1
    exact ⟨p, _, 2, v3, e1, r2, sqT_ext (n2.vx.trans n2.sub) e2, rfl, k v3 M2 H2 (n1.trans n2) (u.ext n2.vx e5)⟩⟩⟩
theorem e_4d {δ : Type} {t4 : Ty δ} {w : α × β × γ × δ} (ha : E X G a (tP4 s t u t4) w) (hb : E X G b tI 3) (hs : PlainIx b := by exact fun _ _ => rfl) : E X G (.Subscript a b pos) t4 w.2.2.2 := ⟨fun S Q k =>
  ⟨_, pe_ix ix_tup pe_w pe_w hs, ha.run S _ fun v M1 H1 n1 r1 => hb.run (S.next n1) _ fun w' M2 H2 n2 r2 => by
    obtain ⟨p, v1, v2, v3, v4, e1, e2, e3, e4, e5, e6⟩ := r1
    exact ⟨p, _, 3, v4, e1, r2, sqT_ext (n2.vx.trans n2.sub) e2, rfl, k v4 M2 H2 (n1.trans n2) (t4.ext n2.vx e6)⟩⟩⟩
/-- parts of a slice -/
structure EO (X : Cx) (G : List Sl) (e : Option Expr) (o : Option Int) : Prop where
  run : ∀ {M0 H0 M H : Hp} {σ : L2.St}, St X.K M0 H0 M H σ G → ∀ (Q : Option Int → Hp → Prop), (∀ M' H', Nx M H M' H' → Q o H') → ∃ te, PO X e te ∧ te σ H Q
theorem eo_none : EO X G none none := ⟨fun {M0 H0 M H σ} S Q k => ⟨_, po_none, k M H (Nx.refl S.sub)⟩⟩
theorem eo_some (h : E X G e tI i) : EO X G (some e) (some i) := ⟨fun S Q k => ⟨_, po_some pe_w, h.run S _ fun v M1 H1 n1 r1 => ⟨i, r1, k M1 H1 n1⟩⟩⟩
def wO (X : Cx) (e : Option Expr) : TO := fun σ H Q => ∃ te, PO X e te ∧ te σ H Q
theorem po_w {e : Option Expr} : PO X e (wO X e) := ⟨fun pins s σ H Q I ⟨_, p, h⟩ => p.run pins s σ H Q I h⟩
theorem el_slice {lo hi : Option Expr} {l h : Option Int} {p2 : Pos} (ha : E X G a (tLst s) xs) (hl : EO X G lo l) (hh : EO X G hi h) : EL X G (.Subscript a (.Slice lo hi none p2) pos) s (cut xs l h) := ⟨fun S Q k =>
  ⟨_, pe_slice sl_list pe_w po_w po_w, ha.run S _ fun v M1 H1 n1 r1 => hl.run (S.next n1) _ fun M2 H2 n2 => hh.run (S.next (n1.trans n2)) _ fun M3 H3 n3 => by
    obtain ⟨p, vs, e1, e2, e3⟩ := r1
    have vx := n2.vx.trans n3.vx
    have n := (n1.trans n2).trans n3
    exact ⟨p, vs, e1, SqL.of (n3.sub _ _ (vx _ _ e2)), fun r hr => k r M3 _ _ ⟨n.ex.trans (same_new hr), n.vx, n.sub.trans (same_new hr), n.fr⟩ (n.ex.free hr) (same_none n.sub hr) upd_same (cut_paired l h (paired_imp (fun _ _ q => s.ext vx q) e3))⟩⟩⟩
theorem cut_whole {xs : List α} {l h : Option Int} (h1 : HT.sIx xs.length 0 l = 0) (h2 : HT.sIx xs.length xs.length h = xs.length) : cut xs l h = xs := by
  unfold cut; rw [h1, h2]; simp
theorem e_sliceT {lo hi : Option Expr} {l h : Option Int} {p2 : Pos} (ha : E X G a (tTup s) xs) (hl : EO X G lo l) (hh : EO X G hi h) : E X G (.Subscript a (.Slice lo hi none p2) pos) (tTup s) (cut xs l h) := ⟨fun S Q k =>
  ⟨_, pe_slice sl_tupA pe_w po_w po_w, ha.run S _ fun v M1 H1 n1 r1 => hl.run (S.next n1) _ fun M2 H2 n2 => hh.run (S.next (n1.trans n2)) _ fun M3 H3 n3 => by
    obtain ⟨p, vs, e1, e2, e3⟩ := r1
    have vx := n2.vx.trans n3.vx
    have n := (n1.trans n2).trans n3
    have hlen := e3.length
    refine ⟨p, vs, e1, sqT_ext (vx.trans n3.sub) e2, fun ⟨w1, w2⟩ => ?_, fun _ r hr => ?_⟩
    · rw [hlen] at w1 w2
      refine k _ M3 H3 n ⟨p, vs, rfl, sqT_ext vx e2, ?_⟩
      rw [cut_whole w1 w2]
      exact paired_imp (fun _ _ q => s.ext vx q) e3
    · exact k _ _ _ (n.trans (Nx.new n3.sub hr)) ⟨r, _, rfl, .inl (.inl upd_same), cut_paired l h (paired_imp (fun _ _ q => s.ext (vx.trans (same_new (same_none n3.sub hr))) q) e3)⟩⟩⟩
/-- t + u of tuples -/
theorem e_catT (ha : E X G a (tTup s) xs) (hb : E X G b (tTup s) ys) (h0 : xs ≠ []) (hz : xs.length + ys.length ≤ 1000000) : E X G (.BinOp a .Add b pos) (tTup s) (xs ++ ys) := e_op2 op_catT ha hb fun M H v w Q m h1 h2 k => by
  obtain ⟨p, vs, e1, e2, e3⟩ := h1
  obtain ⟨q, ws, f1, f2, f3⟩ := h2
  have l1 := e3.length
  have l2 := f3.length
  refine ⟨p, q, vs, ws, e1, f1, sqT_ext m e2, sqT_ext m f2, fun z => h0 ?_, by rw [l1, l2]; exact Nat.le_trans hz (by decide), fun z => ?_, fun _ r hr => ?_⟩
  · rw [z] at l1
    exact List.eq_nil_of_length_eq_zero l1.symm
  · have : ys = [] := by rw [z] at l2; exact List.eq_nil_of_length_eq_zero l2.symm
    rw [this, List.append_nil] at k
    exact k _ M H (Nx.refl m) ⟨p, vs, rfl, e2, e3⟩
  · exact k _ _ _ (Nx.new m hr) ⟨r, _, rfl, .inl (.inl upd_same), paired_imp (fun _ _ q => s.ext (same_new (same_none m hr)) q) (paired_app e3 f3)⟩
theorem nx_lay {M H : Hp} (m : Same M H) {p : Addr} {o : HO} (hp : H p = none) : Nx M H M (upd H p o) := ⟨same_new hp, Same.refl _, m.trans (same_new hp), fun _ q _ => q⟩
/-- xs + ys, xs * n of lists -/
theorem el_cat (ha : E X G a (tLst s) xs) (hb : E X G b (tLst s) ys) (hz : xs.length + ys.length ≤ 1000000) : EL X G (.BinOp a .Add b pos) s (xs ++ ys) := el_op2 op_cat ha hb fun M H v w Q m h1 h2 k => by
  obtain ⟨p, vs, e1, e2, e3⟩ := h1
  obtain ⟨q, ws, f1, f2, f3⟩ := h2
  refine ⟨p, q, vs, ws, e1, f1, m _ _ e2, m _ _ f2, by rw [e3.length, f3.length]; exact Nat.le_trans hz (by decide), fun r hr => ?_⟩
  exact k r M _ _ (nx_lay m hr) hr (same_none m hr) upd_same (paired_app e3 f3)
theorem paired_rep {F : V → α → Prop} {vs : List V} {xs : List α} (p : Paired F vs xs) : ∀ n : Nat, Paired F (List.replicate n vs).flatten (List.replicate n xs).flatten
  | 0 => .nil
  | n + 1 => by
    rw [List.replicate_succ, List.replicate_succ, List.flatten_cons, List.flatten_cons]
    exact paired_app p (paired_rep p n)
theorem rep_len (n : Nat) (xs : List α) : (List.replicate n xs).flatten.length = n * xs.length := by
  induction n with
  | zero => simp
  | succ n ih => rw [List.replicate_succ, List.flatten_cons, List.length_append, ih, Nat.succ_mul]; omega
theorem el_rep (ha : E X G a (tLst s) xs) (hb : E X G b tI i) (h1 : -1000000 ≤ i ∧ i ≤ 1000000) (hz : xs.length * i.toNat ≤ 1000000) : EL X G (.BinOp a .Mult b pos) s (List.replicate i.toNat xs).flatten := el_op2 op_rep ha hb fun M H v w Q m q1 q2 k => by
  obtain ⟨p, vs, e1, e2, e3⟩ := q1
  refine ⟨p, i, vs, e1, q2, m _ _ e2, by omega, by omega, by rw [e3.length]; exact Nat.le_trans hz (by decide), fun r hr => ?_⟩
  exact k r M _ _ (nx_lay m hr) hr (same_none m hr) upd_same (paired_rep e3 _)

/-! ### built-ins -/
def wC1 (X : Cx) (id : String) : List V → Hp → VK → Prop := fun vs H Q => ∃ r, CallR X (.builtin id) r ∧ r vs H Q
theorem e_cb {n : Str} {id : String} {r : List V → Hp → VK → Prop} {ss : List Sl} (hc : CallR X (.builtin id) r) (ha : EA X G (e :: es) ss) (hm : X.mg n = none)
    (hr : ∀ (M H : Hp) (vs : List V) (Q : VK), Same M H → Reps X.K M vs ss → (∀ v M' H', Nx M H M' H' → u.rep X.K M' v z → Q v H') → r vs H Q)
    (hv : bootBuiltins n = some (.builtin id) := by decide +kernel) (hg : Gl X n := by rfl) (hn : n ≠ "__name__" := by decide) (hdb : (n == ("__debug__" : Str)) = false := by decide)
    (he : starEach (e :: es) X.env = (false, eval e X.env) :: starEach es X.env := by rfl) (hpl : (backTo pos (starEach es X.env)).any (·.1) = false := by rfl) {p : Pos} : E X G (.Call (.Name n p) (e :: es) [] pos) u z := ⟨fun S Q k =>
  ⟨_, pe_callB hc hg hm hv pa_w hn hdb he hpl, ha.run S _ fun vs M1 H1 n1 r1 => hr M1 H1 vs Q n1.sub r1 fun v M2 H2 n2 r2 => k v M2 H2 (n1.trans n2) r2⟩⟩
theorem e_ct {n : Str} {T : String} {r : List V → Hp → VK → Prop} {ss : List Sl} (hc : CallR X (.type T) r) (ha : EA X G (e :: es) ss) (hm : X.mg n = none)
    (hr : ∀ (M H : Hp) (vs : List V) (Q : VK), Same M H → Reps X.K M vs ss → (∀ v M' H', Nx M H M' H' → u.rep X.K M' v z → Q v H') → r vs H Q)
    (hv : bootBuiltins n = some (.type T) := by decide +kernel) (hg : Gl X n := by rfl) (hn : n ≠ "__name__" := by decide) (hdb : (n == ("__debug__" : Str)) = false := by decide)
    (he : starEach (e :: es) X.env = (false, eval e X.env) :: starEach es X.env := by rfl) (hpl : (backTo pos (starEach es X.env)).any (·.1) = false := by rfl) {p : Pos} : E X G (.Call (.Name n p) (e :: es) [] pos) u z := ⟨fun S Q k =>
  ⟨_, pe_callTy hc hg hm hv pa_w hn hdb he hpl, ha.run S _ fun vs M1 H1 n1 r1 => hr M1 H1 vs Q n1.sub r1 fun v M2 H2 n2 r2 => k v M2 H2 (n1.trans n2) r2⟩⟩
theorem el_ct {n : Str} {T : String} {r : List V → Hp → VK → Prop} {ss : List Sl} {zs : List γ} (hc : CallR X (.type T) r) (ha : EA X G (e :: es) ss) (hm : X.mg n = none)
    (hr : ∀ (M H : Hp) (vs : List V) (Q : VK), Same M H → Reps X.K M vs ss → (∀ p M' H' ws, Nx M H M' H' → H p = none → M' p = none → H' p = some (.lst ws) → Paired (u.rep X.K M') ws zs → Q (.ref p) H') → r vs H Q)
    (hv : bootBuiltins n = some (.type T) := by decide +kernel) (hg : Gl X n := by rfl) (hn : n ≠ "__name__" := by decide) (hdb : (n == ("__debug__" : Str)) = false := by decide)
    (he : starEach (e :: es) X.env = (false, eval e X.env) :: starEach es X.env := by rfl) (hpl : (backTo pos (starEach es X.env)).any (·.1) = false := by rfl) {p : Pos} : EL X G (.Call (.Name n p) (e :: es) [] pos) u zs := ⟨fun S Q k =>
  ⟨_, pe_callTy hc hg hm hv pa_w hn hdb he hpl, ha.run S _ fun vs M1 H1 n1 r1 => hr M1 H1 vs Q n1.sub r1 fun p M2 H2 ws n2 hp mp hh r2 => k p M2 H2 ws (n1.trans n2) (n1.ex.free hp) mp hh r2⟩⟩
theorem el_cb {n : Str} {id : String} {r : List V → Hp → VK → Prop} {ss : List Sl} {zs : List γ} (hc : CallR X (.builtin id) r) (ha : EA X G (e :: es) ss) (hm : X.mg n = none)
    (hr : ∀ (M H : Hp) (vs : List V) (Q : VK), Same M H → Reps X.K M vs ss → (∀ p M' H' ws, Nx M H M' H' → H p = none → M' p = none → H' p = some (.lst ws) → Paired (u.rep X.K M') ws zs → Q (.ref p) H') → r vs H Q)
    (hv : bootBuiltins n = some (.builtin id) := by decide +kernel) (hg : Gl X n := by rfl) (hn : n ≠ "__name__" := by decide) (hdb : (n == ("__debug__" : Str)) = false := by decide)
    (he : starEach (e :: es) X.env = (false, eval e X.env) :: starEach es X.env := by rfl) (hpl : (backTo pos (starEach es X.env)).any (·.1) = false := by rfl) {p : Pos} : EL X G (.Call (.Name n p) (e :: es) [] pos) u zs := ⟨fun S Q k =>
  ⟨_, pe_callB hc hg hm hv pa_w hn hdb he hpl, ha.run S _ fun vs M1 H1 n1 r1 => hr M1 H1 vs Q n1.sub r1 fun p M2 H2 ws n2 hp mp hh r2 => k p M2 H2 ws (n1.trans n2) (n1.ex.free hp) mp hh r2⟩⟩
end
theorem reps1 {K : Fg} {M : Hp} {α : Type} {t : Ty α} {x : α} {vs : List V} (h : Reps K M vs [.vl t x]) : ∃ v, vs = [v] ∧ t.rep K M v x := by
  cases h with
  | cons h r => cases r; exact ⟨_, rfl, h⟩
theorem reps2 {K : Fg} {M : Hp} {α β : Type} {t : Ty α} {x : α} {s : Ty β} {y : β} {vs : List V} (h : Reps K M vs [.vl t x, .vl s y]) : ∃ v w, vs = [v, w] ∧ t.rep K M v x ∧ s.rep K M w y := by
  cases h with
  | cons h r => cases r with | cons h' r' => cases r'; exact ⟨_, _, rfl, h, h'⟩
section
variable {α β γ : Type} {X : Cx} {G : List Sl} {a b c e : Expr} {es rest : List Expr} {s : Ty α} {t : Ty β} {u : Ty γ} {x : α} {y : β} {z : γ} {pos : Pos} {i j : Int} {xs ys : List α} {p q : Bool}
section
variable {h1 : starEach [a] X.env = (false, eval a X.env) :: starEach [] X.env}
theorem e_lenT {p : Pos} (hm : X.mg "len" = none) (ha : E X G a (tTup s) xs) (hg : Gl X "len" := by rfl) (he : starEach [a] X.env = (false, eval a X.env) :: starEach [] X.env := by rfl) : E X G (.Call (.Name "len" p) [a] [] pos) tI (xs.length : Int) :=
  e_cb call_len_seq (ea_cons ha ea_nil he) hm (fun M H vs Q m r k => by
    obtain ⟨v, rfl, p, ws, e1, e2, e3⟩ := reps1 r
    exact ⟨p, ws, by rw [e1], .inr (sqT_ext m e2), by rw [e3.length]; exact k _ M H (Nx.refl m) rfl⟩) PySem.boot_len hg (by decide) (by decide) he
theorem e_lenL {p : Pos} (hm : X.mg "len" = none) (ha : E X G a (tLst s) xs) (hg : Gl X "len" := by rfl) (he : starEach [a] X.env = (false, eval a X.env) :: starEach [] X.env := by rfl) : E X G (.Call (.Name "len" p) [a] [] pos) tI (xs.length : Int) :=
  e_cb call_len_seq (ea_cons ha ea_nil he) hm (fun M H vs Q m r k => by
    obtain ⟨v, rfl, p, ws, e1, e2, e3⟩ := reps1 r
    exact ⟨p, ws, by rw [e1], .inl (SqL.of (m _ _ e2)), by rw [e3.length]; exact k _ M H (Nx.refl m) rfl⟩) PySem.boot_len hg (by decide) (by decide) he
theorem e_lenS {p : Pos} (hm : X.mg "len" = none) (ha : E X G a (tSq s) xs) (hg : Gl X "len" := by rfl) (he : starEach [a] X.env = (false, eval a X.env) :: starEach [] X.env := by rfl) : E X G (.Call (.Name "len" p) [a] [] pos) tI (xs.length : Int) :=
  e_cb call_len_seq (ea_cons ha ea_nil he) hm (fun M H vs Q m r k => by
    obtain ⟨v, rfl, p, ws, e1, e2, e3⟩ := reps1 r
    exact ⟨p, ws, by rw [e1], .inl (sqL_ext m e2), by rw [e3.length]; exact k _ M H (Nx.refl m) rfl⟩) PySem.boot_len hg (by decide) (by decide) he
theorem e_intI {p : Pos} (hm : X.mg "int" = none) (ha : E X G a tI i) (hg : Gl X "int" := by rfl) (he : starEach [a] X.env = (false, eval a X.env) :: starEach [] X.env := by rfl) : E X G (.Call (.Name "int" p) [a] [] pos) tI i :=
  e_ct call_int1 (ea_cons ha ea_nil he) hm (fun M H vs Q m r k => by
    obtain ⟨v, rfl, e1⟩ := reps1 r
    exact .inl ⟨i, by rw [show v = V.int i from e1], k _ M H (Nx.refl m) rfl⟩) (by decide +kernel) hg (by decide) (by decide) he
theorem e_intB {p : Pos} {d : Bool} (hm : X.mg "int" = none) (ha : E X G a tB d) (hg : Gl X "int" := by rfl) (he : starEach [a] X.env = (false, eval a X.env) :: starEach [] X.env := by rfl) : E X G (.Call (.Name "int" p) [a] [] pos) tI (if d then 1 else 0) :=
  e_ct call_int1 (ea_cons ha ea_nil he) hm (fun M H vs Q m r k => by
    obtain ⟨v, rfl, e1⟩ := reps1 r
    exact .inr ⟨d, by rw [show v = V.bl d from e1], k _ M H (Nx.refl m) rfl⟩) (by decide +kernel) hg (by decide) (by decide) he
theorem e_strI {p : Pos} (hm : X.mg "str" = none) (ha : E X G a tI i) (hi : i.natAbs.log2 < 1920) (hg : Gl X "str" := by rfl) (he : starEach [a] X.env = (false, eval a X.env) :: starEach [] X.env := by rfl) : E X G (.Call (.Name "str" p) [a] [] pos) tS (toString i) :=
  e_ct call_str_int (ea_cons ha ea_nil he) hm (fun M H vs Q m r k => by
    obtain ⟨v, rfl, e1⟩ := reps1 r
    exact ⟨i, by rw [show v = V.int i from e1], hi, k _ M H (Nx.refl m) rfl⟩) (by decide +kernel) hg (by decide) (by decide) he
/-- max, min of two -/
theorem e_max {p : Pos} (hcm : X.calm = true) (hm : X.mg "max" = none) (ha : E X G a tI i) (hb : E X G b tI j) (hg : Gl X "max" := by rfl) (he : starEach [a, b] X.env = (false, eval a X.env) :: starEach [b] X.env := by rfl) (he2 : starEach [b] X.env = (false, eval b X.env) :: starEach [] X.env := by rfl)
    (hpl : (backTo pos (starEach [b] X.env)).any (·.1) = false := by rfl) : E X G (.Call (.Name "max" p) [a, b] [] pos) tI (if j > i then j else i) :=
  e_cb (call_max2 hcm) (ea_cons ha (ea_cons hb ea_nil he2) he) hm (fun M H vs Q m r k => by
    obtain ⟨v, w, rfl, e1, e2⟩ := reps2 r
    exact ⟨i, j, by rw [show v = V.int i from e1, show w = V.int j from e2], k _ M H (Nx.refl m) rfl⟩) (by decide +kernel) hg (by decide) (by decide) he hpl
theorem e_min {p : Pos} (hcm : X.calm = true) (hm : X.mg "min" = none) (ha : E X G a tI i) (hb : E X G b tI j) (hg : Gl X "min" := by rfl) (he : starEach [a, b] X.env = (false, eval a X.env) :: starEach [b] X.env := by rfl) (he2 : starEach [b] X.env = (false, eval b X.env) :: starEach [] X.env := by rfl)
    (hpl : (backTo pos (starEach [b] X.env)).any (·.1) = false := by rfl) : E X G (.Call (.Name "min" p) [a, b] [] pos) tI (if j < i then j else i) :=
  e_cb (call_min2 hcm) (ea_cons ha (ea_cons hb ea_nil he2) he) hm (fun M H vs Q m r k => by
    obtain ⟨v, w, rfl, e1, e2⟩ := reps2 r
    exact ⟨i, j, by rw [show v = V.int i from e1, show w = V.int j from e2], k _ M H (Nx.refl m) rfl⟩) (by decide +kernel) hg (by decide) (by decide) he hpl
/-- list(..), tuple(..) -/
theorem el_listL {p : Pos} (hm : X.mg "list" = none) (ha : E X G a (tLst s) xs) (hg : Gl X "list" := by rfl) (he : starEach [a] X.env = (false, eval a X.env) :: starEach [] X.env := by rfl) : EL X G (.Call (.Name "list" p) [a] [] pos) s xs :=
  el_ct call_list_of (ea_cons ha ea_nil he) hm (fun M H vs Q m r k => by
    obtain ⟨v, rfl, p, ws, e1, e2, e3⟩ := reps1 r
    exact ⟨p, ws, by rw [e1], .inl (SqL.of (m _ _ e2)), fun l hl => k l M _ ws (nx_lay m hl) hl (same_none m hl) upd_same e3⟩) (by decide +kernel) hg (by decide) (by decide) he
theorem el_listT {p : Pos} (hm : X.mg "list" = none) (ha : E X G a (tTup s) xs) (hg : Gl X "list" := by rfl) (he : starEach [a] X.env = (false, eval a X.env) :: starEach [] X.env := by rfl) : EL X G (.Call (.Name "list" p) [a] [] pos) s xs :=
  el_ct call_list_of (ea_cons ha ea_nil he) hm (fun M H vs Q m r k => by
    obtain ⟨v, rfl, p, ws, e1, e2, e3⟩ := reps1 r
    exact ⟨p, ws, by rw [e1], .inr (sqT_ext m e2), fun l hl => k l M _ ws (nx_lay m hl) hl (same_none m hl) upd_same e3⟩) (by decide +kernel) hg (by decide) (by decide) he
theorem e_tupL {p : Pos} (hm : X.mg "tuple" = none) (ha : E X G a (tLst s) xs) (hg : Gl X "tuple" := by rfl) (he : starEach [a] X.env = (false, eval a X.env) :: starEach [] X.env := by rfl) : E X G (.Call (.Name "tuple" p) [a] [] pos) (tTup s) xs :=
  e_ct call_tuple_of (ea_cons ha ea_nil he) hm (fun M H vs Q m r k => by
    obtain ⟨v, rfl, p, ws, e1, e2, e3⟩ := reps1 r
    exact ⟨p, ws, by rw [e1], .inl ⟨SqL.of (m _ _ e2), fun l hl => k _ _ _ (Nx.new m hl) ⟨l, ws, rfl, .inl (.inl upd_same), paired_imp (fun _ _ q => s.ext (same_new (same_none m hl)) q) e3⟩⟩⟩) (by decide +kernel) hg (by decide) (by decide) he
theorem e_tupT {p : Pos} (hm : X.mg "tuple" = none) (ha : E X G a (tTup s) xs) (hg : Gl X "tuple" := by rfl) (he : starEach [a] X.env = (false, eval a X.env) :: starEach [] X.env := by rfl) : E X G (.Call (.Name "tuple" p) [a] [] pos) (tTup s) xs :=
  e_ct call_tuple_of (ea_cons ha ea_nil he) hm (fun M H vs Q m r k => by
    obtain ⟨v, rfl, p, ws, e1, e2, e3⟩ := reps1 r
    exact ⟨p, ws, by rw [e1], .inr ⟨sqT_ext m e2, k _ M H (Nx.refl m) ⟨p, ws, rfl, e2, e3⟩⟩⟩) (by decide +kernel) hg (by decide) (by decide) he
/-- sum of a list of ints -/
theorem paired_int {M : Hp} {K : Fg} : ∀ {vs : List V} {ns : List Int}, Paired (tI.rep K M) vs ns → vs = ns.map V.int
  | _, _, .nil => rfl
  | _, _, .cons h t => by rw [List.map_cons, paired_int t]; rw [show _ = V.int _ from h]
theorem e_sum {p : Pos} {ns : List Int} (hcm : X.calm = true) (hm : X.mg "sum" = none) (ha : E X G a (tLst tI) ns) (hg : Gl X "sum" := by rfl) (he : starEach [a] X.env = (false, eval a X.env) :: starEach [] X.env := by rfl) : E X G (.Call (.Name "sum" p) [a] [] pos) tI ns.sum :=
  e_cb (cr_sum hcm) (ea_cons ha ea_nil he) hm (fun M H vs Q m r k => by
    obtain ⟨v, rfl, p, ws, e1, e2, e3⟩ := reps1 r
    have e4 := paired_int e3
    subst e4
    exact ⟨p, ns, by rw [e1], SqL.of (m _ _ e2), k _ M H (Nx.refl m) rfl⟩) (by decide +kernel) hg (by decide) (by decide) he
/-- isinstance(x, c) -/
theorem e_isi {p : Pos} {cv : V} {d : Bool} (hm : X.mg "isinstance" = none) (ha : E X G a s x) (hb : E X G b tC cv) (ht : ∀ M v, s.rep X.K M v x → ∃ ty w, ClsV cv w ∧ (∀ H, Same M H → TyX X.K H v ty) ∧ PySem.W.kitOne X.K ty w = some d) (hg : Gl X "isinstance" := by rfl)
    (he : starEach [a, b] X.env = (false, eval a X.env) :: starEach [b] X.env := by rfl) (he2 : starEach [b] X.env = (false, eval b X.env) :: starEach [] X.env := by rfl) (hpl : (backTo pos (starEach [b] X.env)).any (·.1) = false := by rfl) : E X G (.Call (.Name "isinstance" p) [a, b] [] pos) tB d :=
  e_cb call_isi (ea_cons ha (ea_cons hb ea_nil he2) he) hm (fun M H vs Q m r k => by
    obtain ⟨v, w, rfl, e1, e2⟩ := reps2 r
    obtain ⟨ty, w', h1, h2, h3⟩ := ht M v e1
    have e2' : w = cv := e2
    subst e2'
    exact ⟨v, w, ty, w', d, rfl, h1, h2 H m, h3, k _ M H (Nx.refl m) rfl⟩) (by decide +kernel) hg (by decide) (by decide) he hpl
end
end
end TL

namespace TL
open PySem L2

/-! ### statements -/
structure Out where
  nx : List Sl → Prop
  rt : Hp → V → Prop
  bk : List Sl → Prop := fun _ => False
  ct : List Sl → Prop := fun _ => False
  xc : Value → Option Addr → Hp → Prop := fun _ _ _ => False
structure Fin (K : Fg) (R : Out) (M0 H0 : Hp) (D : Ends) (E : XK) : Prop where
  nx : ∀ {M H σ G}, St K M0 H0 M H σ G → R.nx G → D.nx σ H
  rt : ∀ {M H v}, Nx M0 H0 M H → R.rt M v → D.rt v H
  bk : ∀ {M H σ G}, St K M0 H0 M H σ G → R.bk G → D.bk σ H
  ct : ∀ {M H σ G}, St K M0 H0 M H σ G → R.ct G → D.ct σ H
  xc : ∀ {M H c d}, Nx M0 H0 M H → R.xc c d M → E c d H
structure S1 (X : Cx) (G : List Sl) (st : Stmt) (R : Out) : Prop where
  run : ∀ {M0 H0 M H : Hp} {σ : L2.St} (D : Ends) (E : XK), St X.K M0 H0 M H σ G → Takes X (fun c d _ H => E c d H) → Fin X.K R M0 H0 D E → w1 X st D σ H
structure B (X : Cx) (G : List Sl) (sts : List Stmt) (R : Out) : Prop where
  run : ∀ {M0 H0 M H : Hp} {σ : L2.St} (D : Ends) (E : XK), St X.K M0 H0 M H σ G → Takes X (fun c d _ H => E c d H) → Fin X.K R M0 H0 D E → wS X sts D σ H
section
variable {α β γ : Type} {X : Cx} {G : List Sl} {a b c e : Expr} {es : List Expr} {st : Stmt} {rest th el body : List Stmt} {s : Ty α} {t : Ty β} {u : Ty γ} {x : α} {y : β} {z : γ} {pos : Pos} {i j : Int} {xs ys : List α} {p q : Bool} {R : Out}

theorem b_nil (h : R.nx G) : B X G [] R := ⟨fun {M0 H0 M H σ} D E S _ f => ⟨_, pss_nil, f.nx S h⟩⟩
theorem b_cons (h : S1 X G st { R with nx := fun G' => B X G' rest R }) : B X G (st :: rest) R := ⟨fun {M0 H0 M H σ} D E S tk f =>
  ⟨_, pss_cons ps_w pss_w, h.run { D with nx := wS X rest D } E S tk ⟨fun S' hb => hb.run D E S' tk f, f.rt, f.bk, f.ct, f.xc⟩⟩⟩
/-- .. where what follows is shown once -/
theorem b_cut (N : List Sl → Prop) (h : S1 X G st { R with nx := N }) (k : ∀ G', N G' → B X G' rest R) : B X G (st :: rest) R :=
  b_cons ⟨fun D E S tk f => h.run D E S tk ⟨fun S' hn => f.nx S' (k _ hn), f.rt, f.bk, f.ct, f.xc⟩⟩
theorem B.weak {G' : List Sl} (h : B X G' rest R) (w : Sub G G') : B X G rest R := ⟨fun D E S tk f => h.run D E (S.weak w) tk f⟩
theorem b_never {sts : List Stmt} (h : False) : B X G sts R := h.elim
theorem b_freeze (k : Nat) {s : Ty α} {xs : List α} (h : G[k]? = some (.ow s xs)) (hb : B X (G.set k (.vl (tLst s) xs)) rest R) : B X G rest R := ⟨fun D E S tk f => by
  obtain ⟨a, vs, _, _, _, S'⟩ := S.freeze h
  exact hb.run D E S' tk f⟩
theorem s_pass (h : R.nx G) : S1 X G (.Pass pos) R := ⟨fun D E S tk f => ⟨_, ps_pass, f.nx S h⟩⟩
theorem s_break (h : R.bk G) : S1 X G (.Break pos) R := ⟨fun D E S tk f => ⟨_, ps_break, f.bk S h⟩⟩
theorem s_cont (h : R.ct G) : S1 X G (.Continue pos) R := ⟨fun D E S tk f => ⟨_, ps_continue, f.ct S h⟩⟩
theorem s_doc {x : Str} {j : Nat} {pos' : Pos} (h : R.nx G) : S1 X G (.Expr (.Constant (.str x) j pos) pos') R := ⟨fun D E S tk f => ⟨_, ps_doc, f.nx S h⟩⟩
theorem s_drop (he : E X G e s x) (h : R.nx G) (hs : swapsWith e none pos.line X.env = pure false := by rfl) : S1 X G (.Expr e pos) R := ⟨fun D E S tk f =>
  ⟨_, ps_expr pe_w hs, he.run S _ fun v M1 H1 n1 r1 => f.nx (S.next n1) h⟩⟩
theorem s_ret (he : E X G e s x) (h : ∀ M v, s.rep X.K M v x → R.rt M v) : S1 X G (.Return (some e) pos) R := ⟨fun D E S tk f =>
  ⟨_, ps_ret pe_w, he.run S _ fun v M1 H1 n1 r1 => f.rt (S.nx.trans n1) (h M1 v r1)⟩⟩
theorem s_retN (h : ∀ M, R.rt M .non) : S1 X G (.Return none pos) R := ⟨fun {M0 H0 M H σ} D E S tk f => ⟨_, ps_retN, f.rt S.nx (h M)⟩⟩
theorem s_set (k : Nat) {n : Str} {pos' : Pos} (he : E X G e s x) (h : R.nx (G.set k (.vl s x))) (hN : X.N.Nodup) (hi : X.N[k]? = some n := by rfl) (hx : Loc X.env.scope n := by first | exact Or.inl rfl | exact Or.inr rfl)
    (hs : swapsWith e (some (.Name n pos')) pos.line X.env = pure false := by rfl) (hf : X.fn n = true ∨ X.env.scope.names.lookup n = some .local := by first | exact .inl rfl | exact .inr rfl) : S1 X G (.Assign [.Name n pos'] e pos) R := ⟨fun D E S tk f =>
  ⟨_, ps_set hN hi hx pe_w hs hf, he.run S _ fun v M1 H1 n1 r1 => f.nx ((S.next n1).set (s := .vl s x) r1) h⟩⟩
/-- a new list of the frame's own -/
theorem s_own (k : Nat) {n : Str} {pos' : Pos} (he : EL X G e s xs) (h : R.nx (G.set k (.ow s xs))) (hN : X.N.Nodup) (hi : X.N[k]? = some n := by rfl) (hx : Loc X.env.scope n := by first | exact Or.inl rfl | exact Or.inr rfl)
    (hs : swapsWith e (some (.Name n pos')) pos.line X.env = pure false := by rfl) (hf : X.fn n = true ∨ X.env.scope.names.lookup n = some .local := by first | exact .inl rfl | exact .inr rfl) : S1 X G (.Assign [.Name n pos'] e pos) R := ⟨fun D E S tk f =>
  ⟨_, ps_set hN hi hx pe_w hs hf, he.run S _ fun p M1 H1 vs n1 hp mp hh r1 => f.nx (S.setOwn n1 hp mp hh r1) h⟩⟩
theorem s_if (hc : T X G c p) (h1 : p = true → B X G th R) (h2 : p = false → B X G el R) : S1 X G (.If c th el pos) R := ⟨fun D E S tk f =>
  ⟨_, ps_if pt_w pss_w pss_w, hc.run S _ fun M1 H1 n1 => by
    cases p with
    | true => rw [if_pos rfl]; exact (h1 rfl).run D E (S.next n1) tk f
    | false => rw [if_neg (by decide)]; exact (h2 rfl).run D E (S.next n1) tk f⟩⟩
theorem s_aug (k : Nat) {n : Str} {pos' : Pos} (hx0 : G[k]? = some (.vl tI i)) (he : E X G e tI j) (h : R.nx (G.set k (.vl tI (i + j)))) (hN : X.N.Nodup) (hi : X.N[k]? = some n := by rfl) (hx : Loc X.env.scope n := by first | exact Or.inl rfl | exact Or.inr rfl)
    (hf : X.fn n = true ∨ X.env.scope.names.lookup n = some .local := by first | exact .inl rfl | exact .inr rfl) : S1 X G (.AugAssign (.Name n pos') .Add e pos) R := ⟨fun D E S tk f => by
  obtain ⟨v, e1, r⟩ := S.get hx0
  exact ⟨_, ps_aug hN hi hx pe_w ip_add hf, v, e1, he.run S _ fun w M1 H1 n1 r1 => ⟨i, j, r, r1, f.nx ((S.next n1).set (s := .vl tI (i + j)) rfl) h⟩⟩⟩
theorem s_augS (k : Nat) {n : Str} {pos' : Pos} (hx0 : G[k]? = some (.vl tI i)) (he : E X G e tI j) (h : R.nx (G.set k (.vl tI (i - j)))) (hN : X.N.Nodup) (hi : X.N[k]? = some n := by rfl) (hx : Loc X.env.scope n := by first | exact Or.inl rfl | exact Or.inr rfl)
    (hf : X.fn n = true ∨ X.env.scope.names.lookup n = some .local := by first | exact .inl rfl | exact .inr rfl) : S1 X G (.AugAssign (.Name n pos') .Sub e pos) R := ⟨fun D E S tk f => by
  obtain ⟨v, e1, r⟩ := S.get hx0
  exact ⟨_, ps_aug hN hi hx pe_w ip_sub hf, v, e1, he.run S _ fun w M1 H1 n1 r1 => ⟨i, j, r, r1, f.nx ((S.next n1).set (s := .vl tI (i - j)) rfl) h⟩⟩⟩
/-- xs.append(e) -/
theorem s_app (k : Nat) {n : Str} {p1 apos cpos : Pos} (h0 : G[k]? = some (.ow s xs)) (he : E X G e s x) (hz : xs.length < 1000000) (h : R.nx (G.set k (.ow s (xs ++ [x])))) (hi : X.N[k]? = some n := by rfl)
    (hv : Vis X.env.scope n := by first | exact Or.inl rfl | exact Or.inr (Or.inl rfl) | exact Or.inr (Or.inr rfl))
    (hd : (n == ("__debug__" : Str)) = false := by decide) (hcd : (n == ("__classdict__" : Str)) = false := by decide)
    (hst : starEach [e] X.env = (false, eval e X.env) :: starEach [] X.env := by rfl)
    (hbase : attributeBase (.Name n p1) "append" X.env (eval (.Name n p1) X.env) = eval (.Name n p1) X.env := by rfl)
    (hfew : ((backTo cpos (starEach [e] X.env)).all (fun x => !x.1) && (backToKw cpos (keywordEach [] X.env)).all (fun x => x.1.isSome)
      && decide ([e].length + ([] : List Keyword).length + (if ([] : List Keyword).isEmpty then 0 else 1) < 30)) = true := by rfl)
    (hline : (apos.endLine == cpos.line) = true := by rfl) (hplain : (backTo cpos (starEach [] X.env)).any (·.1) = false := by rfl)
    (hs : swapsWith (.Call (.Attribute (.Name n p1) "append" apos) [e] [] cpos) none pos.line X.env = pure false := by rfl) :
    S1 X G (.Expr (.Call (.Attribute (.Name n p1) "append" apos) [e] [] cpos) pos) R := ⟨fun D E S tk f => by
  obtain ⟨a0, vs0, e0, hh0, _, _, _⟩ := S.putOwn (ys := xs) h0
  refine ⟨_, ps_expr (pe_bm PySem.F.plainAttrs_list PySem.F.slot_list_append PySem.F.type_list_append mt_append (pe_var hi hv hd hcd) (pa_cons pe_w pa_nil hst) hbase hfew hline hst hplain) hs, ?_⟩
  refine ⟨.ref a0, e0, .inl ⟨rfl, vs0, SqL.of hh0⟩, he.run S _ fun v M1 H1 n1 r1 => ?_⟩
  have S1 := S.next n1
  obtain ⟨a, vs, e1, hh, mp, pr, upd'⟩ := S1.putOwn (ys := xs ++ [x]) h0
  rw [e0] at e1
  cases e1
  refine ⟨a0, vs, v, rfl, rfl, hh, by rw [pr.length]; exact Nat.lt_of_lt_of_le hz (by decide), f.nx (upd' _ (paired_app pr (.cons r1 .nil))) h⟩⟩
/-- xs[i] = e, xs of the frame's own -/
theorem s_seti (k : Nat) {n : Str} {p1 : Pos} {ib : Expr} {m : Nat} (h0 : G[k]? = some (.ow s xs)) (he : E X G e s x) (hib : E X G ib tI i) (hm : ixN xs.length i = some m) (h : R.nx (G.set k (.ow s (xs.set m x)))) (hi : X.N[k]? = some n := by rfl)
    (hv : Vis X.env.scope n := by first | exact Or.inl rfl | exact Or.inr (Or.inl rfl) | exact Or.inr (Or.inr rfl))
    (hd : (n == ("__debug__" : Str)) = false := by decide) (hcd : (n == ("__classdict__" : Str)) = false := by decide) {p2 : Pos}
    (ha : ∀ v, assign (.Subscript (.Name n p1) ib p2) X.env v = (do
      let ov ← holding [v] (eval (.Name n p1) X.env)
      let iv ← holding [v, ov] (eval ib X.env)
      standAt p2
      holding [v, ov, iv] (setItem ov iv v)
      release [v, ov, iv] []) := by intro _; rfl)
    (hs : swapsWithSole [.Subscript (.Name n p1) ib p2] e pos.line X.env = pure false := by rfl) (hw : swappedStores [.Subscript (.Name n p1) ib p2] e X.env = pure none := by rfl)
    (h1 : (assignEach [.Subscript (.Name n p1) ib p2] X.env).map (·.2) = [assign (.Subscript (.Name n p1) ib p2) X.env] := by rfl) :
    S1 X G (.Assign [.Subscript (.Name n p1) ib p2] e pos) R := ⟨fun D E S tk f => by
  refine ⟨_, ps_asg pe_w (pg_sub (pe_var hi hv hd hcd) pe_w set_list ha) hs hw h1, ?_⟩
  refine he.run S _ fun v M1 H1 n1 r1 => ?_
  obtain ⟨a0, vs0, e0, hh0, _, _, _⟩ := (S.next n1).putOwn (ys := xs) h0
  refine ⟨.ref a0, e0, hib.run (S.next n1) _ fun w M2 H2 n2 r2 => ?_⟩
  obtain ⟨a, vs, e1, hh, mp, pr, upd'⟩ := (S.next (n1.trans n2)).putOwn (ys := xs.set m x) h0
  rw [e0] at e1
  cases e1
  exact ⟨a0, vs, i, m, rfl, r2, hh, by rw [pr.length]; exact hm, f.nx (upd' _ (paired_set (s.ext n2.vx r1) m pr)) h⟩⟩

theorem set_same {G : List Sl} {k : Nat} {u : Sl} (h : G[k]? = some u) : G.set k u = G := by
  apply List.ext_getElem?
  intro j
  by_cases hj : k = j
  · subst hj
    rw [List.getElem?_set_self (List.getElem?_eq_some_iff.mp h).1, h]
  · rw [List.getElem?_set_ne hj]
/-- if c: x = e -/
theorem s_ifSet (k : Nat) {n : Str} {pos' pos2 : Pos} {x y : α} (h0 : G[k]? = some (.vl s x)) (ht : T X G c p) (he : p = true → E X G e s y) (h : R.nx (G.set k (.vl s (if p = true then y else x)))) (hN : X.N.Nodup) (hi : X.N[k]? = some n := by rfl) (hx : Loc X.env.scope n := by first | exact Or.inl rfl | exact Or.inr rfl)
    (hs : swapsWith e (some (.Name n pos')) pos2.line X.env = pure false := by rfl) (hf : X.fn n = true ∨ X.env.scope.names.lookup n = some .local := by first | exact .inl rfl | exact .inr rfl) : S1 X G (.If c [.Assign [.Name n pos'] e pos2] [] pos) R := by
  refine s_if ht (fun hp => ?_) (fun hp => ?_)
  · rw [if_pos hp] at h
    exact b_cons (s_set k (he hp) (b_nil h) hN hi hx hs hf)
  · rw [if_neg (by rw [hp]; decide), set_same h0] at h
    exact b_nil h
/-! ### loops -/
theorem s_forT (k : Nat) {n : Str} {pn : Pos} (I : Nat → List Sl → Prop) (G0 : List Sl) (he : E X G a (tTup s) xs) (w0 : Sub G G0) (h0 : I 0 G0)
    (hs : ∀ m x G', xs[m]? = some x → I m G' → B X (G'.set k (.vl s x)) body ⟨I (m + 1), R.rt, R.nx, I (m + 1), R.xc⟩) (hd : ∀ G', I xs.length G' → R.nx G')
    (hN : X.N.Nodup) (hcm : X.calm = true) (hi : X.N[k]? = some n := by rfl) (hx : Loc X.env.scope n := by first | exact Or.inl rfl | exact Or.inr rfl) (hf : X.fn n = true ∨ X.env.scope.names.lookup n = some .local := by first | exact .inl rfl | exact .inr rfl)
    (hp : PassesOwn (model X.prog X.w) X.A X.env X.xe := by first | exact PassesOwn.never | assumption)
    (hfs : ∀ x, foldedSetIterable a X.env x = pure x := by intro _; rfl) : S1 X G (.For (.Name n pn) a body [] pos) R := ⟨fun {M0 H0 M H σ} D E S tk f =>
  ⟨_, ps_for hp hcm (pi_tup pe_w) (pg_name (pos := pn) hN hi hx hf) pss_w hfs, he.run S _ fun v M1 H1 n1 r1 => by
    obtain ⟨p, vs, e1, e2, e3⟩ := r1
    have n0 := S.nx.trans n1
    refine ⟨p, e1, ⟨vs, sqT_ext n1.sub e2⟩, for_tup (K := X.K) (a := p) (xs := vs) (fun m σ' H' => ∃ M' G', St X.K M1 H0 M' H' σ' G' ∧ I m G') ⟨M1, G0, ((S.next n1).weak w0).rebase, h0⟩ (fun m σ' H' _ ⟨M', G', S', _⟩ => sqT_ext (S'.nx.vx.trans S'.sub) e2) ?_ ?_⟩
    · rintro m w σ' H' hm ⟨M', G', S', hI⟩
      obtain ⟨x', g1, g2⟩ := paired_get' e3 hm
      exact (hs m x' G' g1 hI).run _ E (S'.set (s := .vl s x') (v := w) (s.ext S'.nx.vx g2)) tk ⟨fun S2 h2 => ⟨_, _, S2, h2⟩, fun n2 h2 => f.rt (n0.unbase n2) h2, fun S2 h2 => f.nx (S2.unbase n0) h2, fun S2 h2 => ⟨_, _, S2, h2⟩, fun n2 h2 => f.xc (n0.unbase n2) h2⟩
    · rintro σ' H' ⟨M', G', S', hI⟩
      rw [e3.length] at hI
      exact f.nx (S'.unbase n0) (hd G' hI)⟩⟩
theorem s_forL (k : Nat) {n : Str} {pn : Pos} (I : Nat → List Sl → Prop) (G0 : List Sl) (he : E X G a (tLst s) xs) (w0 : Sub G G0) (h0 : I 0 G0)
    (hs : ∀ m x G', xs[m]? = some x → I m G' → B X (G'.set k (.vl s x)) body ⟨I (m + 1), R.rt, R.nx, I (m + 1), R.xc⟩) (hd : ∀ G', I xs.length G' → R.nx G')
    (hN : X.N.Nodup) (hcm : X.calm = true) (hi : X.N[k]? = some n := by rfl) (hx : Loc X.env.scope n := by first | exact Or.inl rfl | exact Or.inr rfl) (hf : X.fn n = true ∨ X.env.scope.names.lookup n = some .local := by first | exact .inl rfl | exact .inr rfl)
    (hp : PassesOwn (model X.prog X.w) X.A X.env X.xe := by first | exact PassesOwn.never | assumption)
    (hfs : ∀ x, foldedSetIterable a X.env x = pure x := by intro _; rfl) : S1 X G (.For (.Name n pn) a body [] pos) R := ⟨fun {M0 H0 M H σ} D E S tk f =>
  ⟨_, ps_for hp hcm (pi_list pe_w) (pg_name (pos := pn) hN hi hx hf) pss_w hfs, he.run S _ fun v M1 H1 n1 r1 => by
    obtain ⟨p, vs, e1, e2, e3⟩ := r1
    have n0 := S.nx.trans n1
    refine ⟨p, e1, ⟨vs, SqL.of (n1.sub _ _ e2)⟩, for_list (K := X.K) (a := p) (xs := vs) (fun m σ' H' => ∃ M' G', St X.K M1 H0 M' H' σ' G' ∧ I m G') ⟨M1, G0, ((S.next n1).weak w0).rebase, h0⟩ (fun m σ' H' _ ⟨M', G', S', _⟩ => SqL.of (S'.sub _ _ (S'.nx.vx _ _ e2))) ?_ ?_⟩
    · rintro m w σ' H' hm ⟨M', G', S', hI⟩
      obtain ⟨x', g1, g2⟩ := paired_get' e3 hm
      exact (hs m x' G' g1 hI).run _ E (S'.set (s := .vl s x') (v := w) (s.ext S'.nx.vx g2)) tk ⟨fun S2 h2 => ⟨_, _, S2, h2⟩, fun n2 h2 => f.rt (n0.unbase n2) h2, fun S2 h2 => f.nx (S2.unbase n0) h2, fun S2 h2 => ⟨_, _, S2, h2⟩, fun n2 h2 => f.xc (n0.unbase n2) h2⟩
    · rintro σ' H' ⟨M', G', S', hI⟩
      rw [e3.length] at hI
      exact f.nx (S'.unbase n0) (hd G' hI)⟩⟩
theorem s_forS (k : Nat) {n : Str} {pn : Pos} (I : Nat → List Sl → Prop) (G0 : List Sl) (he : E X G a (tSq s) xs) (w0 : Sub G G0) (h0 : I 0 G0)
    (hs : ∀ m x G', xs[m]? = some x → I m G' → B X (G'.set k (.vl s x)) body ⟨I (m + 1), R.rt, R.nx, I (m + 1), R.xc⟩) (hd : ∀ G', I xs.length G' → R.nx G')
    (hN : X.N.Nodup) (hcm : X.calm = true) (hi : X.N[k]? = some n := by rfl) (hx : Loc X.env.scope n := by first | exact Or.inl rfl | exact Or.inr rfl) (hf : X.fn n = true ∨ X.env.scope.names.lookup n = some .local := by first | exact .inl rfl | exact .inr rfl)
    (hp : PassesOwn (model X.prog X.w) X.A X.env X.xe := by first | exact PassesOwn.never | assumption)
    (hfs : ∀ x, foldedSetIterable a X.env x = pure x := by intro _; rfl) : S1 X G (.For (.Name n pn) a body [] pos) R := ⟨fun {M0 H0 M H σ} D E S tk f =>
  ⟨_, ps_for hp hcm (pi_list pe_w) (pg_name (pos := pn) hN hi hx hf) pss_w hfs, he.run S _ fun v M1 H1 n1 r1 => by
    obtain ⟨p, vs, e1, e2, e3⟩ := r1
    have n0 := S.nx.trans n1
    refine ⟨p, e1, ⟨vs, sqL_ext n1.sub e2⟩, for_list (K := X.K) (a := p) (xs := vs) (fun m σ' H' => ∃ M' G', St X.K M1 H0 M' H' σ' G' ∧ I m G') ⟨M1, G0, ((S.next n1).weak w0).rebase, h0⟩ (fun m σ' H' _ ⟨M', G', S', _⟩ => sqL_ext (S'.nx.vx.trans S'.sub) e2) ?_ ?_⟩
    · rintro m w σ' H' hm ⟨M', G', S', hI⟩
      obtain ⟨x', g1, g2⟩ := paired_get' e3 hm
      exact (hs m x' G' g1 hI).run _ E (S'.set (s := .vl s x') (v := w) (s.ext S'.nx.vx g2)) tk ⟨fun S2 h2 => ⟨_, _, S2, h2⟩, fun n2 h2 => f.rt (n0.unbase n2) h2, fun S2 h2 => f.nx (S2.unbase n0) h2, fun S2 h2 => ⟨_, _, S2, h2⟩, fun n2 h2 => f.xc (n0.unbase n2) h2⟩
    · rintro σ' H' ⟨M', G', S', hI⟩
      rw [e3.length] at hI
      exact f.nx (S'.unbase n0) (hd G' hI)⟩⟩
/-- for x in range(n) -/
theorem s_forR (k : Nat) {n : Str} {pn p1 p2 : Pos} (I : Nat → List Sl → Prop) (G0 : List Sl) (hm : X.mg "range" = none) (he : E X G a tI i) (hz : -4611686018427387904 ≤ i ∧ i < 4611686018427387904) (w0 : Sub G G0) (h0 : I 0 G0)
    (hs : ∀ (m : Nat) G', (m : Int) < i → I m G' → B X (G'.set k (.vl tI (m : Int))) body ⟨I (m + 1), R.rt, R.nx, I (m + 1), R.xc⟩) (hd : ∀ G', I i.toNat G' → R.nx G')
    (hN : X.N.Nodup) (hcm : X.calm = true) (hi : X.N[k]? = some n := by rfl) (hx : Loc X.env.scope n := by first | exact Or.inl rfl | exact Or.inr rfl) (hf : X.fn n = true ∨ X.env.scope.names.lookup n = some .local := by first | exact .inl rfl | exact .inr rfl)
    (hp : PassesOwn (model X.prog X.w) X.A X.env X.xe := by first | exact PassesOwn.never | assumption)
    (hg : Gl X "range" := by rfl) (hst : starEach [a] X.env = [(false, eval a X.env)] := by rfl)
    (hfs : ∀ x, foldedSetIterable (.Call (.Name "range" p1) [a] [] p2) X.env x = pure x := by intro _; rfl) : S1 X G (.For (.Name n pn) (.Call (.Name "range" p1) [a] [] p2) body [] pos) R := ⟨fun {M0 H0 M H σ} D E S tk f =>
  ⟨_, ps_for hp hcm (pi_range1 hg hm (pa_cons pe_w pa_nil hst) hst) (pg_name (pos := pn) hN hi hx hf) pss_w hfs, he.run S _ fun v M1 H1 n1 r1 => by
    have n0 := S.nx.trans n1
    refine ⟨i, by rw [show v = V.int i from r1], hz.1, hz.2, for_range (lo := 0) (n := i.toNat) (fun m σ' H' => ∃ M' G', St X.K M1 H0 M' H' σ' G' ∧ I m G') ⟨M1, G0, ((S.next n1).weak w0).rebase, h0⟩ ?_ ?_⟩
    · rintro m σ' H' hm' ⟨M', G', S', hI⟩
      have e0 : (0 : Int) + (m : Int) = (m : Int) := Int.zero_add _
      rw [e0]
      exact (hs m G' (by omega) hI).run _ E (S'.set (s := .vl tI (m : Int)) (v := .int m) rfl) tk ⟨fun S2 h2 => ⟨_, _, S2, h2⟩, fun n2 h2 => f.rt (n0.unbase n2) h2, fun S2 h2 => f.nx (S2.unbase n0) h2, fun S2 h2 => ⟨_, _, S2, h2⟩, fun n2 h2 => f.xc (n0.unbase n2) h2⟩
    · rintro σ' H' ⟨M', G', S', hI⟩
      exact f.nx (S'.unbase n0) (hd G' hI)⟩⟩
/-- for x in range(lo, n) -/
theorem s_forR2 (k : Nat) {n : Str} {pn p1 p2 : Pos} (I : Nat → List Sl → Prop) (G0 : List Sl) (hm : X.mg "range" = none) (he : E X G a tI i) (he2 : E X G b tI j) (hz : (-4611686018427387904 ≤ i ∧ i < 4611686018427387904) ∧ -4611686018427387904 ≤ j ∧ j < 4611686018427387904) (w0 : Sub G G0) (h0 : I 0 G0)
    (hs : ∀ (m : Nat) G', i + (m : Int) < j → I m G' → B X (G'.set k (.vl tI (i + m))) body ⟨I (m + 1), R.rt, R.nx, I (m + 1), R.xc⟩) (hd : ∀ G', I (j - i).toNat G' → R.nx G')
    (hN : X.N.Nodup) (hcm : X.calm = true) (hi : X.N[k]? = some n := by rfl) (hx : Loc X.env.scope n := by first | exact Or.inl rfl | exact Or.inr rfl) (hf : X.fn n = true ∨ X.env.scope.names.lookup n = some .local := by first | exact .inl rfl | exact .inr rfl)
    (hp : PassesOwn (model X.prog X.w) X.A X.env X.xe := by first | exact PassesOwn.never | assumption)
    (hg : Gl X "range" := by rfl) (hst : starEach [a, b] X.env = [(false, eval a X.env), (false, eval b X.env)] := by rfl) (hst2 : starEach [b] X.env = [(false, eval b X.env)] := by rfl)
    (hfs : ∀ x, foldedSetIterable (.Call (.Name "range" p1) [a, b] [] p2) X.env x = pure x := by intro _; rfl) : S1 X G (.For (.Name n pn) (.Call (.Name "range" p1) [a, b] [] p2) body [] pos) R := ⟨fun {M0 H0 M H σ} D E S tk f =>
  ⟨_, ps_for hp hcm (pi_range2 hg hm (pa_cons pe_w (pa_cons pe_w pa_nil hst2) (by rw [hst, hst2])) hst hst2) (pg_name (pos := pn) hN hi hx hf) pss_w hfs, he.run S _ fun v M1 H1 n1 r1 => he2.run (S.next n1) _ fun v' M2 H2 n2 r2 => by
    have n0 := S.nx.trans (n1.trans n2)
    refine ⟨i, j, by rw [show v = V.int i from r1, show v' = V.int j from r2], ⟨hz.1.1, hz.1.2, hz.2.1, hz.2.2⟩, for_range (lo := i) (n := (j - i).toNat) (fun m σ' H' => ∃ M' G', St X.K M2 H0 M' H' σ' G' ∧ I m G') ⟨M2, G0, ((S.next (n1.trans n2)).weak w0).rebase, h0⟩ ?_ ?_⟩
    · rintro m σ' H' hm' ⟨M', G', S', hI⟩
      exact (hs m G' (by omega) hI).run _ E (S'.set (s := .vl tI (i + m)) (v := .int (i + m)) rfl) tk ⟨fun S2 h2 => ⟨_, _, S2, h2⟩, fun n2 h2 => f.rt (n0.unbase n2) h2, fun S2 h2 => f.nx (S2.unbase n0) h2, fun S2 h2 => ⟨_, _, S2, h2⟩, fun n2 h2 => f.xc (n0.unbase n2) h2⟩
    · rintro σ' H' ⟨M', G', S', hI⟩
      exact f.nx (S'.unbase n0) (hd G' hI)⟩⟩
theorem s_while (I : Nat → List Sl → Prop) (G0 : List Sl) (m0 : Nat) (w0 : Sub G G0) (h0 : I m0 G0)
    (hs : ∀ (m : Nat) G', I m G' → ∃ d, T X G' c d ∧ (d = true → B X G' body ⟨fun G2 => ∃ m', m' < m ∧ I m' G2, R.rt, R.nx, fun G2 => ∃ m', m' < m ∧ I m' G2, R.xc⟩) ∧ (d = false → R.nx G'))
    (hp : PassesOwn (model X.prog X.w) X.A X.env X.xe := by first | exact PassesOwn.never | assumption) : S1 X G (.While c body [] pos) R := ⟨fun {M0 H0 M H σ} D E S tk f =>
  ⟨_, ps_while hp pt_w pss_w, fun m σ' H' => ∃ M' G', St X.K M0 H0 M' H' σ' G' ∧ I m G', ⟨m0, M, G0, S.weak w0, h0⟩, by
    rintro m σ' H' ⟨M', G', S', hI⟩
    obtain ⟨d, ht, h1, h2⟩ := hs m G' hI
    refine ht.run S' _ fun M1 H1 n1 => ?_
    cases d with
    | true =>
      rw [if_pos rfl]
      refine ⟨fun σ' H' => ∃ m', m' < m ∧ ∃ M' G', St X.K M0 H0 M' H' σ' G' ∧ I m' G', fun _ _ h => h, ?_⟩
      exact (h1 rfl).run _ E (S'.next n1) tk ⟨fun S2 ⟨m', l, h⟩ => ⟨m', l, _, _, S2, h⟩, f.rt, f.nx, fun S2 ⟨m', l, h⟩ => ⟨m', l, _, _, S2, h⟩, f.xc⟩
    | false =>
      rw [if_neg (by decide)]
      exact f.nx (S'.next n1) (h2 rfl)⟩⟩
end
end TL

namespace TL
open PySem PySem.Spec PyProof.Rows L2

/-! ### defs -/
/-- the promise of a def that raises nothing -/
def spG {ι ρ : Type} (K : Fg) (ar : ι → List Sl) (pre : ι → Prop) (t : Ty ρ) (out : ι → ρ) : Sp := fun vs H Q _ =>
  ∃ (i : ι) (M : Hp), Same M H ∧ Reps K M vs (ar i) ∧ pre i ∧ ∀ v M' H', Nx M H M' H' → t.rep K M' v (out i) → Q v H'
/-- the promise of a def that may raise -/
def spR {ι : Type} (K : Fg) (ar : ι → List Sl) (pre : ι → Prop) (rt : ι → Hp → V → Prop) (xc : ι → Value → Option Addr → Hp → Prop) : Sp := fun vs H Q E =>
  ∃ (i : ι) (M : Hp), Same M H ∧ Reps K M vs (ar i) ∧ pre i ∧ (∀ v M' H', Nx M H M' H' → rt i M' v → Q v H') ∧ ∀ c d M' H', Nx M H M' H' → xc i c d M' → E c d H'
def Ret {ρ : Type} (K : Fg) (t : Ty ρ) (y : ρ) : Out := { nx := fun _ => ∀ M, t.rep K M .non y, rt := fun M v => t.rep K M v y }
theorem reps_len {K : Fg} {M : Hp} : ∀ {vs : List V} {ss : List Sl}, Reps K M vs ss → vs.length = ss.length
  | _, _, .nil => rfl
  | _, _, .cons _ r => by simp [reps_len r]
theorem reps_get {K : Fg} {M : Hp} : ∀ {vs : List V} {ss : List Sl} {i : Nat} {s : Sl}, Reps K M vs ss → ss[i]? = some s → ∃ v, vs[i]? = some v ∧ RepS K M v s
  | _, _, _, _, .nil, e => by simp at e
  | _, _, 0, _, .cons h _, e => by simp at e; subst e; exact ⟨_, rfl, h⟩
  | _, _, i + 1, s, .cons _ r, e => by
    obtain ⟨u, h1, h2⟩ := reps_get (i := i) (s := s) r (by simpa using e)
    exact ⟨u, by simpa using h1, h2⟩
theorem reps_noown {K : Fg} {M : Hp} : ∀ {vs : List V} {ss : List Sl} {i : Nat} {s : Sl}, Reps K M vs ss → ss[i]? = some s → s.own = false
  | _, _, _, _, .nil, e => by simp at e
  | _, _, 0, _, .cons _ _, e => by simp at e; subst e; rfl
  | _, _, i + 1, s, .cons _ r, e => reps_noown (i := i) r (by simpa using e)
/-- the state at a def's entry -/
theorem st_start {K : Fg} {M H : Hp} {vs : List V} {ss : List Sl} {N : List Str} {n : Nat} (m : Same M H) (r : Reps K M vs ss) (hn : N.length = ss.length + n) : St K M H M H (L2.start N vs) (ss ++ List.replicate n .un) := by
  have hl := reps_len r
  refine ⟨Nx.refl m, ?_, fun _ => [], fun i s e => ?_, fun i j s t e1 e2 o1 o2 ne x hx => ?_⟩
  · unfold L2.start
    rw [List.length_append, List.length_append, List.length_map, List.length_replicate, List.length_replicate, hl]
    omega
  · unfold L2.start
    by_cases h : i < ss.length
    · rw [List.getElem?_append_left h] at e
      obtain ⟨v, q1, q2⟩ := reps_get r e
      refine ⟨some v, ?_, ?_⟩
      · rw [List.getElem?_append_left (by rw [List.length_map, hl]; exact h), List.getElem?_map, q1]; rfl
      · cases s with
        | un => trivial
        | vl t x => exact ⟨v, rfl, q2⟩
        | ow t xs => exact q2.elim
        | o2 t xs => exact q2.elim
        | ob p dx C fs => exact q2.elim
    · have h' : ss.length ≤ i := Nat.le_of_not_lt h
      rw [List.getElem?_append_right h'] at e
      have e2 := (List.getElem?_eq_some_iff.mp e)
      obtain ⟨l, e3⟩ := e2
      rw [List.getElem_replicate] at e3
      subst e3
      rw [List.length_replicate] at l
      refine ⟨none, ?_, trivial⟩
      rw [List.getElem?_append_right (by rw [List.length_map, hl]; exact h'), List.length_map, hl, List.getElem?_replicate, if_pos (by omega)]
  · have : s.own = false := by
      by_cases h : i < ss.length
      · rw [List.getElem?_append_left h] at e1; exact reps_noown r e1
      · rw [List.getElem?_append_right (Nat.le_of_not_lt h)] at e1
        obtain ⟨l, e3⟩ := List.getElem?_eq_some_iff.mp e1
        rw [List.getElem_replicate] at e3
        subst e3; rfl
    rw [this] at o1; cases o1
theorem takes_false {X : Cx} : Takes X (fun c d _ H => (fun _ _ _ => False : XK) c d H) := fun u s' ⟨_, _, _, _, _, _, _, _, _, _, _, _, _, _, _, _, w⟩ => w.elim
section
variable {P : Program} {w : World} {K : Fg} {mg : Str → Option Value} {base : Heap} {ι ρ : Type}
theorem fn_ok {x qual : Str} {st : Stmt} {f : Addr} {fd : FuncData} {N ps : List Str} {k : Nat} {ar : ι → List Sl} {pre : ι → Prop} {t : Ty ρ} {out : ι → ρ} (F : Fun K x qual st f fd) (S : FnScope N ps (defScope st)) (n : Nat)
    (hn : N.length = ps.length + n) (hl : ∀ i, (ar i).length = ps.length)
    (hb : ∀ (cdv : Value) (A : Around) (outer : List Env) (s : Shared) (H : Hp) (E : XK), Room k (A.deeper (envOfC qual (defScope st) s.heap.objs.size f cdv)) → ∀ i, pre i →
      B (cxOf CX0 P w K mg base N qual (defScope st) f cdv A outer s H E).nox (ar i ++ List.replicate n .un) (defBody st) (Ret K t (out i))) : FnOk P w K mg base CX0 (k + 1) f fd ps (spG K ar pre t out) := by
  refine F.ok S (fun vs H Q E h => ?_) (fun cdv A outer s H vs Q E hr h => ⟨_, pss_w, ?_⟩)
  · obtain ⟨i, M, _, r, _⟩ := h
    rw [reps_len r, hl]
  · obtain ⟨i, M, m, r, hp, q⟩ := h
    refine (hb cdv A outer s H E hr i hp).run _ (fun _ _ _ => False) (st_start m r (by rw [hl]; exact hn)) takes_false ⟨fun S' h => ?_, fun n2 h => q _ _ _ n2 h, fun _ h => h.elim, fun _ h => h.elim, fun _ h => h.elim⟩
    exact q _ _ _ S'.nx (h _)
/-- .. that may raise -/
theorem fn_okX {x qual : Str} {st : Stmt} {f : Addr} {fd : FuncData} {N ps : List Str} {k : Nat} {ar : ι → List Sl} {pre : ι → Prop} {rt : ι → Hp → V → Prop} {xc : ι → Value → Option Addr → Hp → Prop} (F : Fun K x qual st f fd) (S : FnScope N ps (defScope st)) (n : Nat)
    (hn : N.length = ps.length + n) (hl : ∀ i, (ar i).length = ps.length)
    (hb : ∀ (cdv : Value) (A : Around) (outer : List Env) (s : Shared) (H : Hp) (E : XK), Room k (A.deeper (envOfC qual (defScope st) s.heap.objs.size f cdv)) → ∀ i, pre i →
      B (cxOf (CX P w) P w K mg base N qual (defScope st) f cdv A outer s H E) (ar i ++ List.replicate n .un) (defBody st) { nx := fun _ => ∀ M, rt i M .non, rt := rt i, xc := xc i }) : FnOk P w K mg base (CX P w) (k + 1) f fd ps (spR K ar pre rt xc) := by
  refine F.okX S (fun vs H Q E h => ?_) (fun cdv A outer s H vs Q E hr h => ⟨_, pss_w, ?_⟩)
  · obtain ⟨i, M, _, r, _⟩ := h
    rw [reps_len r, hl]
  · obtain ⟨i, M, m, r, hp, q, qx⟩ := h
    refine (hb cdv A outer s H E hr i hp).run _ E (st_start m r (by rw [hl]; exact hn)) (takes_of rfl rfl rfl rfl) ⟨fun S' h => ?_, fun n2 h => q _ _ _ n2 h, fun _ h => h.elim, fun _ h => h.elim, fun n2 h => qx _ _ _ _ n2 h⟩
    exact q _ _ _ S'.nx (h _)
/-- a def as its callers know it -/
structure Fn (P : Program) (w : World) (K : Fg) (mg : Str → Option Value) (base : Heap) (CX : CXT) (k : Nat) (name : Str) (ps : List Str) (sp : Sp) : Prop where
  ex : ∃ f fd, mg name = some (.ref f) ∧ PySem.W.keepIn K (.ref f) = true ∧ Binds K fd ps [] ∧ FnOk P w K mg base CX k f fd ps sp
end
section
variable {α β γ ι ρ : Type} {X : Cx} {G : List Sl} {a b c e : Expr} {es rest : List Expr} {s : Ty α} {t : Ty β} {u : Ty γ} {x : α} {y : β} {z : γ} {pos : Pos} {k : Nat}
theorem e_call {P : Program} {w : World} {K : Fg} {mg : Str → Option Value} {base : Heap} {n : Str} {ps : List Str} {ar : ι → List Sl} {pre : ι → Prop} {tr : Ty ρ} {out : ι → ρ} {p : Pos} (C : Fn P w K mg base CX0 k n ps (spG K ar pre tr out)) (hr : Room k X.A) (i : ι) (ha : EA X G (e :: es) (ar i)) (hp : pre i)
    (hg : Gl X n := by rfl) (hdb : (n == ("__debug__" : Str)) = false := by decide) (he : starEach (e :: es) X.env = (false, eval e X.env) :: starEach es X.env := by rfl) (hpl : (backTo pos (starEach es X.env)).any (·.1) = false := by rfl)
    (xP : X.prog = P := by rfl) (xw : X.w = w := by rfl) (xK : X.K = K := by rfl) (xm : X.mg = mg := by rfl) (xb : X.base = base := by rfl) : E X G (.Call (.Name n p) (e :: es) [] pos) tr (out i) := ⟨fun S Q q => by
  subst xP xw xK xm xb
  obtain ⟨f, fd, hm, hk, hb, F⟩ := C.ex
  refine ⟨_, pe_call F hr hg hm hk hb .nil pass0 pa_w hdb he hpl, ha.run S _ fun vs M1 H1 n1 r1 => ?_⟩
  rw [List.append_nil]
  exact ⟨i, M1, n1.sub, r1, hp, fun v M2 H2 n2 r2 => q v M2 H2 (n1.trans n2) r2⟩⟩
theorem e_call0 {P : Program} {w : World} {K : Fg} {mg : Str → Option Value} {base : Heap} {n : Str} {ar : Unit → List Sl} {pre : Unit → Prop} {tr : Ty ρ} {out : Unit → ρ} {p : Pos} (C : Fn P w K mg base CX0 k n [] (spG K ar pre tr out)) (hr : Room k X.A) (h0 : ar () = []) (hp : pre ())
    (hg : Gl X n := by rfl) (hdb : (n == ("__debug__" : Str)) = false := by decide) (xP : X.prog = P := by rfl) (xw : X.w = w := by rfl) (xK : X.K = K := by rfl) (xm : X.mg = mg := by rfl) (xb : X.base = base := by rfl) : E X G (.Call (.Name n p) [] [] pos) tr (out ()) := ⟨fun {M0 H0 M H σ} S Q q => by
  subst xP xw xK xm xb
  obtain ⟨f, fd, hm, hk, hb, F⟩ := C.ex
  refine ⟨_, pe_call0 F hr hg hm hk hb .nil pass0 hdb, ?_⟩
  refine ⟨(), M, S.sub, by rw [h0]; exact .nil, hp, fun v M2 H2 n2 r2 => q v M2 H2 n2 r2⟩⟩

/-! ### what does not lean on lists -/
def TupS (K : Fg) (M M' : Hp) : Prop := ∀ a xs, SqT K M a xs → SqT K M' a xs
def Imm (K : Fg) (t : Ty α) : Prop := ∀ M M' v x, TupS K M M' → t.rep K M v x → t.rep K M' v x
theorem imm_I {K : Fg} : Imm K tI := fun _ _ _ _ _ h => h
theorem imm_B {K : Fg} : Imm K tB := fun _ _ _ _ _ h => h
theorem imm_S {K : Fg} : Imm K tS := fun _ _ _ _ _ h => h
theorem imm_N {K : Fg} : Imm K tN := fun _ _ _ _ _ h => h
theorem imm_T {K : Fg} {s : Ty α} (i : Imm K s) : Imm K (tTup s) := fun _ _ _ _ q ⟨a, vs, h1, h2, h3⟩ => ⟨a, vs, h1, q _ _ h2, paired_imp (fun _ _ z => i _ _ _ _ q z) h3⟩
theorem imm_O {K : Fg} {s : Ty α} (i : Imm K s) : Imm K (tO s) := fun _ _ _ x q h => by
  cases x with
  | none => exact h
  | some y => exact i _ _ _ _ q h
theorem imm_2 {K : Fg} {s : Ty α} {t : Ty β} (i : Imm K s) (j : Imm K t) : Imm K (tP2 s t) := fun _ _ _ _ q ⟨a, v1, v2, h1, h2, h3, h4⟩ => ⟨a, v1, v2, h1, q _ _ h2, i _ _ _ _ q h3, j _ _ _ _ q h4⟩
/-- an own list is read -/
theorem e_read (m : Nat) {s : Ty α} {xs : List α} (h : G[m]? = some (.ow s xs)) (hi : Imm X.K t) (he : E X (G.set m (.vl (tLst s) xs)) e t y) : E X G e t y := ⟨fun {M0 H0 M H σ} S Q q => by
  obtain ⟨a, vs, hh, ma, h0, S'⟩ := S.freeze h
  refine he.run S' _ fun v M' H' n r => ?_
  have am : M' a = some (.lst vs) := n.vx _ _ upd_same
  refine q v (fun b => if b = a then none else M' b) H' ⟨n.ex, fun b o e => ?_, fun b o e => ?_, fun b n1 n2 => ?_⟩ (hi _ _ _ _ (fun b xs e => ?_) r)
  · have hb : b ≠ a := ne_of_none e ma
    show (if b = a then none else M' b) = some o
    rw [if_neg hb]
    exact n.vx _ _ (by rw [upd_ne hb]; exact e)
  · have e' : (if b = a then none else M' b) = some o := e
    by_cases hb : b = a
    · rw [if_pos hb] at e'; cases e'
    · rw [if_neg hb] at e'; exact n.sub _ _ e'
  · show (if b = a then none else M' b) = none
    by_cases hb : b = a
    · rw [if_pos hb]
    · rw [if_neg hb]; exact n.fr b (by rw [upd_ne hb]; exact n1) n2
  · rcases e with e | e
    · have hb : b ≠ a := fun z => by
        subst z
        rcases e with e | ⟨o, e⟩
        · rw [am] at e; cases e
        · rw [am] at e; cases e
      refine .inl ?_
      rcases e with e | ⟨o, e⟩
      · exact .inl (by show (if b = a then none else M' b) = _; rw [if_neg hb]; exact e)
      · exact .inr ⟨o, by show (if b = a then none else M' b) = _; rw [if_neg hb]; exact e⟩
    · exact .inr e⟩
theorem t_read (m : Nat) {s : Ty α} {xs : List α} {d : Bool} (h : G[m]? = some (.ow s xs)) (he : T X (G.set m (.vl (tLst s) xs)) e d) : T X G e d := ⟨fun {M0 H0 M H σ} S Q q => by
  obtain ⟨a, vs, hh, ma, h0, S'⟩ := S.freeze h
  refine he.run S' _ fun M' H' n => ?_
  have am : M' a = some (.lst vs) := n.vx _ _ upd_same
  refine q (fun b => if b = a then none else M' b) H' ⟨n.ex, fun b o e => ?_, fun b o e => ?_, fun b n1 n2 => ?_⟩
  · have hb : b ≠ a := ne_of_none e ma
    show (if b = a then none else M' b) = some o
    rw [if_neg hb]
    exact n.vx _ _ (by rw [upd_ne hb]; exact e)
  · have e' : (if b = a then none else M' b) = some o := e
    by_cases hb : b = a
    · rw [if_pos hb] at e'; cases e'
    · rw [if_neg hb] at e'; exact n.sub _ _ e'
  · show (if b = a then none else M' b) = none
    by_cases hb : b = a
    · rw [if_pos hb]
    · rw [if_neg hb]; exact n.fr b (by rw [upd_ne hb]; exact n1) n2⟩
/-- .. for a new list of things that don't lean on lists -/
theorem el_read (m : Nat) {s : Ty α} {xs : List α} {ys : List β} (h : G[m]? = some (.ow s xs)) (hi : Imm X.K t) (he : EL X (G.set m (.vl (tLst s) xs)) e t ys) : EL X G e t ys := ⟨fun {M0 H0 M H σ} S Q q => by
  obtain ⟨a, vs, hh, ma, h0, S'⟩ := S.freeze h
  refine he.run S' _ fun p M' H' ws n hp mp hw r => ?_
  have am : M' a = some (.lst vs) := n.vx _ _ upd_same
  have pa : p ≠ a := fun z => by subst z; rw [hp] at hh; cases hh
  refine q p (fun b => if b = a then none else M' b) H' ws ⟨n.ex, fun b o e => ?_, fun b o e => ?_, fun b n1 n2 => ?_⟩ hp (by show (if p = a then none else M' p) = none; rw [if_neg pa]; exact mp) hw (paired_imp (fun v x r => hi _ _ _ _ (fun b xs e => ?_) r) r)
  · have hb : b ≠ a := ne_of_none e ma
    show (if b = a then none else M' b) = some o
    rw [if_neg hb]
    exact n.vx _ _ (by rw [upd_ne hb]; exact e)
  · have e' : (if b = a then none else M' b) = some o := e
    by_cases hb : b = a
    · rw [if_pos hb] at e'; cases e'
    · rw [if_neg hb] at e'; exact n.sub _ _ e'
  · show (if b = a then none else M' b) = none
    by_cases hb : b = a
    · rw [if_pos hb]
    · rw [if_neg hb]; exact n.fr b (by rw [upd_ne hb]; exact n1) n2
  · rcases e with e | e
    · have hb : b ≠ a := fun z => by
        subst z
        rcases e with e | ⟨o, e⟩
        · rw [am] at e; cases e
        · rw [am] at e; cases e
      refine .inl ?_
      rcases e with e | ⟨o, e⟩
      · exact .inl (by show (if b = a then none else M' b) = _; rw [if_neg hb]; exact e)
      · exact .inr ⟨o, by show (if b = a then none else M' b) = _; rw [if_neg hb]; exact e⟩
    · exact .inr e⟩

/-! ### comprehensions -/
/-- in the block: the context is any X' that the block makes -/
def Blk (X X' : Cx) (scope : Scope) : Prop := ∃ (s : Shared) (H : Hp) (C : Addr) (cl : List (Str × Addr)) (fp : List Addr), X' = X.blk s H scope (compEnvC scope cl C X.env) fp
variable {scope : Scope} {own : List (Str × Nat)} {n : Str} {pn : Pos}
theorem wiped {σ : L2.St} {v : V} {i : Nat} {vs : List Nat} (hi : i ∈ vs) : L2.wipe ((L2.wipe σ vs).set i (some v)) vs = L2.wipe σ vs := by
  have key : ∀ (us : List Nat) (τ : L2.St) (j : Nat), (L2.wipe τ us)[j]? = if j ∈ us then (if j < τ.length then some none else none) else τ[j]? := by
    intro us
    induction us with
    | nil => intro τ j; simp [L2.wipe]
    | cons u us ih =>
      intro τ j
      show ((L2.wipe τ us).set u none)[j]? = _
      by_cases hj : u = j
      · subst hj
        rw [List.getElem?_set]
        simp [wipe_length]
      · rw [List.getElem?_set_ne hj, ih τ j]
        have : (j ∈ u :: us) ↔ j ∈ us := by simp [Ne.symm hj]
        simp [this]
  apply List.ext_getElem?
  intro j
  rw [key, key]
  by_cases hj : j ∈ vs
  · rw [if_pos hj, if_pos hj]
    rw [List.length_set, wipe_length]
  · rw [if_neg hj, if_neg hj]
    rw [List.getElem?_set_ne (fun z => hj (by rw [← z]; exact hi)), key, if_neg hj]
/-- the element's reading in any block -/
def wBlk (X : Cx) (scope : Scope) (e : Expr) : TE := fun σ H Q => ∀ (s0 : Shared) (H' : Hp) (C : Addr) (cl : List (Str × Addr)) (fp : List Addr), wE (X.blk s0 H' scope (compEnvC scope cl C X.env) fp) e σ H Q
theorem pe_blk {X : Cx} {scope : Scope} {e : Expr} (s0 : Shared) (H' : Hp) (C : Addr) (cl : List (Str × Addr)) (fp : List Addr) : PE (X.blk s0 H' scope (compEnvC scope cl C X.env) fp) e (wBlk X scope e) :=
  ⟨fun pins s σ H Q I h => pe_w.run pins s σ H Q I (h s0 H' C cl fp)⟩
def wBlkT (X : Cx) (scope : Scope) (e : Expr) : TT := fun σ H Q => ∀ (s0 : Shared) (H' : Hp) (C : Addr) (cl : List (Str × Addr)) (fp : List Addr), wT (X.blk s0 H' scope (compEnvC scope cl C X.env) fp) e σ H Q
theorem pt_blk {X : Cx} {scope : Scope} {e : Expr} (s0 : Shared) (H' : Hp) (C : Addr) (cl : List (Str × Addr)) (fp : List Addr) : PT (X.blk s0 H' scope (compEnvC scope cl C X.env) fp) e (wBlkT X scope e) :=
  ⟨fun pins s σ H Q I h => pt_w.run pins s σ H Q I (h s0 H' C cl fp)⟩
/-- behind m turns of a comprehension: the list at D holds what is made -/
def LcI {β : Type} (K : Fg) (t : Ty β) (M1 H1 : Hp) (D : Addr) (ys : List β) (H : Hp) : Prop := ∃ M vs, Nx M1 H1 M H ∧ M D = none ∧ H D = some (.lst vs) ∧ Paired (t.rep K M) vs ys
theorem lcI_turn {X X' : Cx} {G : List Sl} {e : Expr} {t : Ty β} {y : β} {M0 H0 M1 H1 H : Hp} {D : Addr} {ys : List β} {σ : L2.St} (hK : X'.K = X.K) (hD : H1 D = none) (hI : LcI X.K t M1 H1 D ys H) (hz : ys.length < 1000000)
    (S : ∀ M, Nx M1 H1 M H → St X'.K M0 H0 M H σ G) (he : E X' G e t y) : wE X' e σ H fun v H4 => ∃ acc, H4 D = some (.lst acc) ∧ acc.length < sizeLine ∧ LcI X.K t M1 H1 D (ys ++ [y]) (upd H4 D (.lst (acc ++ [v]))) := by
  obtain ⟨M, vs, n, hm, hh, pr⟩ := hI
  refine he.run (S M n) _ fun v M' H' n' r => ?_
  have h4 := n'.ex _ _ hh
  have mD : M' D = none := n'.fr D hm (by rw [hh]; simp)
  have nn := n.trans n'
  refine ⟨vs, h4, by rw [pr.length]; exact Nat.lt_of_lt_of_le hz (by decide), M', vs ++ [v], ⟨fun b o q => ?_, nn.vx, fun b o q => ?_, nn.fr⟩, mD, upd_same, paired_app (paired_imp (fun _ _ q => t.ext n'.vx q) pr) (.cons (by rw [← hK]; exact r) .nil)⟩
  · rw [upd_ne (ne_of_none q hD)]; exact nn.ex b o q
  · rw [upd_ne (ne_of_none q mD)]; exact nn.sub b o q
theorem lcI_start {K : Fg} {t : Ty β} {M1 H1 : Hp} {D : Addr} (m : Same M1 H1) (hD : H1 D = none) : LcI K t M1 H1 D [] (upd H1 D (.lst [])) :=
  ⟨M1, [], nx_lay m hD, same_none m hD, upd_same, .nil⟩
theorem St.block {K : Fg} {M0 H0 M1 H1 M H : Hp} {σ : L2.St} {G : List Sl} (S : St K M0 H0 M1 H1 σ G) (n : Nx M1 H1 M H) (vs : List Nat) {α : Type} {s : Ty α} {x : α} {v : V} (i : Nat) (r : s.rep K M1 v x) : St K M0 H0 M H ((L2.wipe σ vs).set i (some v)) ((wipeG G vs).set i (.vl s x)) :=
  ((S.next n).wipe vs).set (s := .vl s x) (s.ext n.vx r)
theorem take_snoc {α : Type} {xs : List α} {m : Nat} {x : α} (h : xs[m]? = some x) : xs.take (m + 1) = xs.take m ++ [x] := by
  rw [List.take_add_one, h]; rfl
/-- a list comprehension, whatever becomes of its list -/
structure LC (X : Cx) (G : List Sl) (elt tg iter : Expr) (ifs : List Expr) (scope : Scope) (t : Ty β) (ys : List β) : Prop where
  ex : ∃ (wi : TI) (g : TG) (tt : TT) (te : TE) (own : List (Str × Nat)), PI X tg iter wi ∧ BlkOk X.N X.env.scope scope own ∧
    (∀ (s : Shared) (H : Hp) (C : Addr) (cl : List (Str × Addr)) (fp : List Addr), PG (X.blk s H scope (compEnvC scope cl C X.env) fp) tg g) ∧
    (∀ (s : Shared) (H : Hp) (C : Addr) (cl : List (Str × Addr)) (fp : List Addr), PTs (X.blk s H scope (compEnvC scope cl C X.env) fp) ifs tt) ∧
    (∀ (s : Shared) (H : Hp) (C : Addr) (cl : List (Str × Addr)) (fp : List Addr), PE (X.blk s H scope (compEnvC scope cl C X.env) fp) elt te) ∧ (∀ x, foldedSetIterable iter X.env x = pure x) ∧
    ∀ {M0 H0 M H : Hp} {σ : L2.St}, St X.K M0 H0 M H σ G → ∀ (Q : VK), (∀ p M' H' vs, Nx M H M' H' → H p = none → M' p = none → H' p = some (.lst vs) → Paired (t.rep X.K M') vs ys → Q (.ref p) H') → tLc wi g tt te (own.map (·.2)) σ H Q
theorem el_lc {elt tg iter : Expr} {ifs : List Expr} {ys : List β} (h : LC X G elt tg iter ifs scope t ys) (hcm : X.calm = true) (hN : X.N.Nodup) : EL X G (.ListComp elt [⟨tg, iter, ifs, 0⟩] scope pos) t ys := by
  obtain ⟨wi, g, tt, te, own, h1, h2, h3, h4, h5, h6, h7⟩ := h.ex
  exact ⟨fun S Q q => ⟨_, pe_lc hcm hN h1 h2 h3 h4 h5 h6, h7 S Q q⟩⟩
theorem s_lc (k : Nat) {elt tg iter : Expr} {ifs : List Expr} {ys : List β} {nm : Str} {py : Pos} {pos' : Pos} {R : Out} (h : LC X G elt tg iter ifs scope t ys) (hnx : R.nx (G.set k (.ow t ys))) (hcm : X.calm = true) (hN : X.N.Nodup) (hi : X.N[k]? = some nm := by rfl) (hy : X.env.scope.names.lookup nm = some .local := by rfl)
    (hsw : swapsWith (.ListComp elt [⟨tg, iter, ifs, 0⟩] scope pos) (some (.Name nm py)) pos'.line X.env = pure true := by first | exact sw_true rfl rfl rfl (by decide +kernel) | rfl) : S1 X G (.Assign [.Name nm py] (.ListComp elt [⟨tg, iter, ifs, 0⟩] scope pos) pos') R := by
  obtain ⟨wi, g, tt, te, own, h1, h2, h3, h4, h5, h6, h7⟩ := h.ex
  exact ⟨fun D E S tk f => ⟨_, ps_setLc hcm hN hi hy hsw h1 h2 h3 h4 h5 h6, h7 S _ fun p M1 H1 vs n1 hp mp hh r1 => f.nx (S.setOwn n1 hp mp hh r1) hnx⟩⟩
theorem lc_T {f : α → β} {xs : List α} (he : E X G a (tTup s) xs) (i : Nat)
    (hel : ∀ (s0 : Shared) (H : Hp) (C : Addr) (cl : List (Str × Addr)) (fp : List Addr) (m : Nat) (x : α), xs[m]? = some x → E (X.blk s0 H scope (compEnvC scope cl C X.env) fp) ((wipeG G (own.map (·.2))).set i (.vl s x)) e t (f x))
    (ok : BlkOk X.N X.env.scope scope own) (hz : xs.length ≤ 1000000)
    (hg : ∀ (s0 : Shared) (H : Hp) (C : Addr) (cl : List (Str × Addr)) (fp : List Addr), PG (X.blk s0 H scope (compEnvC scope cl C X.env) fp) (.Name n pn) (gName i)) (hio : i ∈ own.map (·.2) := by decide)
    (hs : ∀ x, foldedSetIterable a X.env x = pure x := by intro _; rfl) : LC X G e (.Name n pn) (a) [] scope t (xs.map f) := ⟨_, _, _, wBlk X scope e, own, (pi_tup pe_w), ok, hg, (fun _ _ _ _ _ => pts_nil), (fun s0 H C cl fp => pe_blk s0 H C cl fp), hs, fun {M0 H0 M H σ} S Q q => by
  refine he.run S _ fun v M1 H1 n1 r1 => ?_
  obtain ⟨p, vs, e1, e2, e3⟩ := r1
  refine ⟨p, e1, ⟨vs, sqT_ext n1.sub e2⟩, fun D hD => lc_tup (K := X.K) (a := p) (xs := vs) (fun m H' => LcI X.K t M1 H1 D ((xs.take m).map f) H') (lcI_start n1.sub hD) (fun m H' _ ⟨M', _, n', _⟩ => sqT_ext (n'.vx.trans n'.sub) e2) ?_ ?_⟩
  · intro m w H' hm hI
    obtain ⟨x', g1, g2⟩ := paired_get' e3 hm
    refine ⟨wiped hio, fun s0 H2 C cl fp => ?_⟩
    rw [take_snoc g1, List.map_append]
    have hl : ((xs.take m).map f).length < 1000000 := by
      have := (List.getElem?_eq_some_iff.mp g1).1
      rw [List.length_map, List.length_take]; omega
    exact lcI_turn (X := X) rfl hD hI hl (fun M' n' => St.block (S.next n1) n' _ i g2) (hel s0 H2 C cl fp m x' g1)
  · rintro H' ⟨M', ws, n', mD, hh, pr⟩
    rw [e3.length, List.take_length] at pr
    exact q D M' H' ws (n1.trans n') (n1.ex.free hD) mD hh pr⟩
theorem lc_L {f : α → β} {xs : List α} (he : E X G a (tLst s) xs) (i : Nat)
    (hel : ∀ (s0 : Shared) (H : Hp) (C : Addr) (cl : List (Str × Addr)) (fp : List Addr) (m : Nat) (x : α), xs[m]? = some x → E (X.blk s0 H scope (compEnvC scope cl C X.env) fp) ((wipeG G (own.map (·.2))).set i (.vl s x)) e t (f x))
    (ok : BlkOk X.N X.env.scope scope own) (hz : xs.length ≤ 1000000)
    (hg : ∀ (s0 : Shared) (H : Hp) (C : Addr) (cl : List (Str × Addr)) (fp : List Addr), PG (X.blk s0 H scope (compEnvC scope cl C X.env) fp) (.Name n pn) (gName i)) (hio : i ∈ own.map (·.2) := by decide)
    (hs : ∀ x, foldedSetIterable a X.env x = pure x := by intro _; rfl) : LC X G e (.Name n pn) (a) [] scope t (xs.map f) := ⟨_, _, _, wBlk X scope e, own, (pi_list pe_w), ok, hg, (fun _ _ _ _ _ => pts_nil), (fun s0 H C cl fp => pe_blk s0 H C cl fp), hs, fun {M0 H0 M H σ} S Q q => by
  refine he.run S _ fun v M1 H1 n1 r1 => ?_
  obtain ⟨p, vs, e1, e2, e3⟩ := r1
  refine ⟨p, e1, ⟨vs, SqL.of (n1.sub _ _ e2)⟩, fun D hD => lc_list (K := X.K) (a := p) (xs := vs) (fun m H' => LcI X.K t M1 H1 D ((xs.take m).map f) H') (lcI_start n1.sub hD) (fun m H' _ ⟨M', _, n', _⟩ => SqL.of (n'.sub _ _ (n'.vx _ _ e2))) ?_ ?_⟩
  · intro m w H' hm hI
    obtain ⟨x', g1, g2⟩ := paired_get' e3 hm
    refine ⟨wiped hio, fun s0 H2 C cl fp => ?_⟩
    rw [take_snoc g1, List.map_append]
    have hl : ((xs.take m).map f).length < 1000000 := by
      have := (List.getElem?_eq_some_iff.mp g1).1
      rw [List.length_map, List.length_take]; omega
    exact lcI_turn (X := X) rfl hD hI hl (fun M' n' => St.block (S.next n1) n' _ i g2) (hel s0 H2 C cl fp m x' g1)
  · rintro H' ⟨M', ws, n', mD, hh, pr⟩
    rw [e3.length, List.take_length] at pr
    exact q D M' H' ws (n1.trans n') (n1.ex.free hD) mD hh pr⟩
theorem lc_S {f : α → β} {xs : List α} (he : E X G a (tSq s) xs) (i : Nat)
    (hel : ∀ (s0 : Shared) (H : Hp) (C : Addr) (cl : List (Str × Addr)) (fp : List Addr) (m : Nat) (x : α), xs[m]? = some x → E (X.blk s0 H scope (compEnvC scope cl C X.env) fp) ((wipeG G (own.map (·.2))).set i (.vl s x)) e t (f x))
    (ok : BlkOk X.N X.env.scope scope own) (hz : xs.length ≤ 1000000)
    (hg : ∀ (s0 : Shared) (H : Hp) (C : Addr) (cl : List (Str × Addr)) (fp : List Addr), PG (X.blk s0 H scope (compEnvC scope cl C X.env) fp) (.Name n pn) (gName i)) (hio : i ∈ own.map (·.2) := by decide)
    (hs : ∀ x, foldedSetIterable a X.env x = pure x := by intro _; rfl) : LC X G e (.Name n pn) (a) [] scope t (xs.map f) := ⟨_, _, _, wBlk X scope e, own, (pi_list pe_w), ok, hg, (fun _ _ _ _ _ => pts_nil), (fun s0 H C cl fp => pe_blk s0 H C cl fp), hs, fun {M0 H0 M H σ} S Q q => by
  refine he.run S _ fun v M1 H1 n1 r1 => ?_
  obtain ⟨p, vs, e1, e2, e3⟩ := r1
  refine ⟨p, e1, ⟨vs, sqL_ext n1.sub e2⟩, fun D hD => lc_list (K := X.K) (a := p) (xs := vs) (fun m H' => LcI X.K t M1 H1 D ((xs.take m).map f) H') (lcI_start n1.sub hD) (fun m H' _ ⟨M', _, n', _⟩ => sqL_ext (n'.vx.trans n'.sub) e2) ?_ ?_⟩
  · intro m w H' hm hI
    obtain ⟨x', g1, g2⟩ := paired_get' e3 hm
    refine ⟨wiped hio, fun s0 H2 C cl fp => ?_⟩
    rw [take_snoc g1, List.map_append]
    have hl : ((xs.take m).map f).length < 1000000 := by
      have := (List.getElem?_eq_some_iff.mp g1).1
      rw [List.length_map, List.length_take]; omega
    exact lcI_turn (X := X) rfl hD hI hl (fun M' n' => St.block (S.next n1) n' _ i g2) (hel s0 H2 C cl fp m x' g1)
  · rintro H' ⟨M', ws, n', mD, hh, pr⟩
    rw [e3.length, List.take_length] at pr
    exact q D M' H' ws (n1.trans n') (n1.ex.free hD) mD hh pr⟩
/-- [e for i in range(n)] -/
theorem lc_R {f : Nat → β} {j : Int} {p1 p2 : Pos} (hm : X.mg "range" = none) (he : E X G a tI j) (hj : -1000000 ≤ j ∧ j ≤ 1000000) (i : Nat)
    (hel : ∀ (s0 : Shared) (H : Hp) (C : Addr) (cl : List (Str × Addr)) (fp : List Addr) (m : Nat), (m : Int) < j → E (X.blk s0 H scope (compEnvC scope cl C X.env) fp) ((wipeG G (own.map (·.2))).set i (.vl tI (m : Int))) e t (f m))
    (ok : BlkOk X.N X.env.scope scope own)
    (hg : ∀ (s0 : Shared) (H : Hp) (C : Addr) (cl : List (Str × Addr)) (fp : List Addr), PG (X.blk s0 H scope (compEnvC scope cl C X.env) fp) (.Name n pn) (gName i)) (hio : i ∈ own.map (·.2) := by decide)
    (hgr : Gl X "range" := by rfl) (hst : starEach [a] X.env = [(false, eval a X.env)] := by rfl)
    (hs : ∀ x, foldedSetIterable (.Call (.Name "range" p1) [a] [] p2) X.env x = pure x := by intro _; rfl) : LC X G e (.Name n pn) (.Call (.Name "range" p1) [a] [] p2) [] scope t ((List.range j.toNat).map f) := ⟨_, _, _, wBlk X scope e, own, (pi_range1 hgr hm (pa_cons pe_w pa_nil hst) hst), ok, hg, (fun _ _ _ _ _ => pts_nil), (fun s0 H C cl fp => pe_blk s0 H C cl fp), hs, fun {M0 H0 M H σ} S Q q => by
  refine he.run S _ fun v M1 H1 n1 r1 => ?_
  refine ⟨j, by rw [show v = V.int j from r1], by omega, by omega, fun D hD => lc_range (lo := 0) (n := j.toNat) (fun m H' => LcI X.K t M1 H1 D ((List.range m).map f) H') (lcI_start n1.sub hD) ?_ ?_⟩
  · intro m H' hm hI
    have e0 : (0 : Int) + (m : Int) = (m : Int) := Int.zero_add _
    rw [e0]
    refine ⟨wiped hio, fun s0 H2 C cl fp => ?_⟩
    rw [List.range_succ, List.map_append]
    have hl : ((List.range m).map f).length < 1000000 := by
      rw [List.length_map, List.length_range]; omega
    exact lcI_turn (X := X) rfl hD hI hl (fun M' n' => St.block (S.next n1) n' _ i (s := tI) (x := (m : Int)) rfl) (hel s0 H2 C cl fp m (by omega))
  · rintro H' ⟨M', ws, n', mD, hh, pr⟩
    exact q D M' H' ws (n1.trans n') (n1.ex.free hD) mD hh pr⟩
/-- with a test -/
theorem lcI_test {X X' : Cx} {G : List Sl} {c : Expr} {t : Ty β} {M0 H0 M1 H1 H : Hp} {D : Addr} {ys : List β} {σ : L2.St} {d : Bool} {R : Bool → Hp → Prop} (hI : LcI X.K t M1 H1 D ys H)
    (S : ∀ M, Nx M1 H1 M H → St X'.K M0 H0 M H σ G) (ht : T X' G c d) (k : ∀ H3, LcI X.K t M1 H1 D ys H3 → R d H3) : wT X' c σ H R := by
  obtain ⟨M, vs, n, hm, hh, pr⟩ := hI
  refine ht.run (S M n) _ fun M' H' n' => k H' ⟨M', vs, n.trans n', n'.fr D hm (by rw [hh]; simp), n'.ex _ _ hh, paired_imp (fun _ _ q => t.ext n'.vx q) pr⟩
theorem lc_TF {f : α → β} {g : α → Bool} {xs : List α} (he : E X G a (tTup s) xs) (i : Nat)
    (htt : ∀ (s0 : Shared) (H : Hp) (C : Addr) (cl : List (Str × Addr)) (fp : List Addr) (m : Nat) (x : α), xs[m]? = some x → T (X.blk s0 H scope (compEnvC scope cl C X.env) fp) ((wipeG G (own.map (·.2))).set i (.vl s x)) c (g x))
    (hel : ∀ (s0 : Shared) (H : Hp) (C : Addr) (cl : List (Str × Addr)) (fp : List Addr) (m : Nat) (x : α), xs[m]? = some x → g x = true → E (X.blk s0 H scope (compEnvC scope cl C X.env) fp) ((wipeG G (own.map (·.2))).set i (.vl s x)) e t (f x))
    (ok : BlkOk X.N X.env.scope scope own) (hz : xs.length ≤ 1000000)
    (hg : ∀ (s0 : Shared) (H : Hp) (C : Addr) (cl : List (Str × Addr)) (fp : List Addr), PG (X.blk s0 H scope (compEnvC scope cl C X.env) fp) (.Name n pn) (gName i)) (hio : i ∈ own.map (·.2) := by decide)
    (hs : ∀ x, foldedSetIterable a X.env x = pure x := by intro _; rfl) : LC X G e (.Name n pn) (a) [c] scope t ((xs.filter g).map f) := ⟨_, _, wBlkT X scope c, wBlk X scope e, own, (pi_tup pe_w), ok, hg, (fun s0 H C cl fp => pts_one (pt_blk s0 H C cl fp)), (fun s0 H C cl fp => pe_blk s0 H C cl fp), hs, fun {M0 H0 M H σ} S Q q => by
  refine he.run S _ fun v M1 H1 n1 r1 => ?_
  obtain ⟨p, vs, e1, e2, e3⟩ := r1
  refine ⟨p, e1, ⟨vs, sqT_ext n1.sub e2⟩, fun D hD => lc_tup (K := X.K) (a := p) (xs := vs) (fun m H' => LcI X.K t M1 H1 D (((xs.take m).filter g).map f) H') (lcI_start n1.sub hD) (fun m H' _ ⟨M', _, n', _⟩ => sqT_ext (n'.vx.trans n'.sub) e2) ?_ ?_⟩
  · intro m w H' hm hI
    obtain ⟨x', g1, g2⟩ := paired_get' e3 hm
    refine ⟨wiped hio, fun s0 H2 C cl fp => lcI_test hI (fun M' n' => St.block (S.next n1) n' _ i g2) (htt s0 H2 C cl fp m x' g1) fun H3 hI3 => ?_⟩
    cases hd : g x' with
    | true =>
      rw [if_pos rfl]
      intro s0 H2 C cl fp
      rw [take_snoc g1, List.filter_append, List.map_append, show List.filter g [x'] = [x'] by simp [hd]]
      have hl : (((xs.take m).filter g).map f).length < 1000000 := by
        have h1 := (List.getElem?_eq_some_iff.mp g1).1
        have h2 := List.length_filter_le g (xs.take m)
        rw [List.length_take] at h2
        rw [List.length_map]; omega
      exact lcI_turn (X := X) rfl hD hI3 hl (fun M' n' => St.block (S.next n1) n' _ i g2) (hel s0 H2 C cl fp m x' g1 hd)
    | false =>
      rw [if_neg (by decide)]
      rw [take_snoc g1, List.filter_append, show List.filter g [x'] = [] by simp [hd], List.append_nil]
      exact hI3
  · rintro H' ⟨M', ws, n', mD, hh, pr⟩
    rw [e3.length, List.take_length] at pr
    exact q D M' H' ws (n1.trans n') (n1.ex.free hD) mD hh pr⟩
theorem lc_LF {f : α → β} {g : α → Bool} {xs : List α} (he : E X G a (tLst s) xs) (i : Nat)
    (htt : ∀ (s0 : Shared) (H : Hp) (C : Addr) (cl : List (Str × Addr)) (fp : List Addr) (m : Nat) (x : α), xs[m]? = some x → T (X.blk s0 H scope (compEnvC scope cl C X.env) fp) ((wipeG G (own.map (·.2))).set i (.vl s x)) c (g x))
    (hel : ∀ (s0 : Shared) (H : Hp) (C : Addr) (cl : List (Str × Addr)) (fp : List Addr) (m : Nat) (x : α), xs[m]? = some x → g x = true → E (X.blk s0 H scope (compEnvC scope cl C X.env) fp) ((wipeG G (own.map (·.2))).set i (.vl s x)) e t (f x))
    (ok : BlkOk X.N X.env.scope scope own) (hz : xs.length ≤ 1000000)
    (hg : ∀ (s0 : Shared) (H : Hp) (C : Addr) (cl : List (Str × Addr)) (fp : List Addr), PG (X.blk s0 H scope (compEnvC scope cl C X.env) fp) (.Name n pn) (gName i)) (hio : i ∈ own.map (·.2) := by decide)
    (hs : ∀ x, foldedSetIterable a X.env x = pure x := by intro _; rfl) : LC X G e (.Name n pn) (a) [c] scope t ((xs.filter g).map f) := ⟨_, _, wBlkT X scope c, wBlk X scope e, own, (pi_list pe_w), ok, hg, (fun s0 H C cl fp => pts_one (pt_blk s0 H C cl fp)), (fun s0 H C cl fp => pe_blk s0 H C cl fp), hs, fun {M0 H0 M H σ} S Q q => by
  refine he.run S _ fun v M1 H1 n1 r1 => ?_
  obtain ⟨p, vs, e1, e2, e3⟩ := r1
  refine ⟨p, e1, ⟨vs, SqL.of (n1.sub _ _ e2)⟩, fun D hD => lc_list (K := X.K) (a := p) (xs := vs) (fun m H' => LcI X.K t M1 H1 D (((xs.take m).filter g).map f) H') (lcI_start n1.sub hD) (fun m H' _ ⟨M', _, n', _⟩ => SqL.of (n'.sub _ _ (n'.vx _ _ e2))) ?_ ?_⟩
  · intro m w H' hm hI
    obtain ⟨x', g1, g2⟩ := paired_get' e3 hm
    refine ⟨wiped hio, fun s0 H2 C cl fp => lcI_test hI (fun M' n' => St.block (S.next n1) n' _ i g2) (htt s0 H2 C cl fp m x' g1) fun H3 hI3 => ?_⟩
    cases hd : g x' with
    | true =>
      rw [if_pos rfl]
      intro s0 H2 C cl fp
      rw [take_snoc g1, List.filter_append, List.map_append, show List.filter g [x'] = [x'] by simp [hd]]
      have hl : (((xs.take m).filter g).map f).length < 1000000 := by
        have h1 := (List.getElem?_eq_some_iff.mp g1).1
        have h2 := List.length_filter_le g (xs.take m)
        rw [List.length_take] at h2
        rw [List.length_map]; omega
      exact lcI_turn (X := X) rfl hD hI3 hl (fun M' n' => St.block (S.next n1) n' _ i g2) (hel s0 H2 C cl fp m x' g1 hd)
    | false =>
      rw [if_neg (by decide)]
      rw [take_snoc g1, List.filter_append, show List.filter g [x'] = [] by simp [hd], List.append_nil]
      exact hI3
  · rintro H' ⟨M', ws, n', mD, hh, pr⟩
    rw [e3.length, List.take_length] at pr
    exact q D M' H' ws (n1.trans n') (n1.ex.free hD) mD hh pr⟩
theorem lc_RF {f : Nat → β} {g : Nat → Bool} {j : Int} {p1 p2 : Pos} (hm : X.mg "range" = none) (he : E X G a tI j) (hj : -1000000 ≤ j ∧ j ≤ 1000000) (i : Nat)
    (htt : ∀ (s0 : Shared) (H : Hp) (C : Addr) (cl : List (Str × Addr)) (fp : List Addr) (m : Nat), (m : Int) < j → T (X.blk s0 H scope (compEnvC scope cl C X.env) fp) ((wipeG G (own.map (·.2))).set i (.vl tI (m : Int))) c (g m))
    (hel : ∀ (s0 : Shared) (H : Hp) (C : Addr) (cl : List (Str × Addr)) (fp : List Addr) (m : Nat), (m : Int) < j → g m = true → E (X.blk s0 H scope (compEnvC scope cl C X.env) fp) ((wipeG G (own.map (·.2))).set i (.vl tI (m : Int))) e t (f m))
    (ok : BlkOk X.N X.env.scope scope own)
    (hg : ∀ (s0 : Shared) (H : Hp) (C : Addr) (cl : List (Str × Addr)) (fp : List Addr), PG (X.blk s0 H scope (compEnvC scope cl C X.env) fp) (.Name n pn) (gName i)) (hio : i ∈ own.map (·.2) := by decide)
    (hgr : Gl X "range" := by rfl) (hst : starEach [a] X.env = [(false, eval a X.env)] := by rfl)
    (hs : ∀ x, foldedSetIterable (.Call (.Name "range" p1) [a] [] p2) X.env x = pure x := by intro _; rfl) : LC X G e (.Name n pn) (.Call (.Name "range" p1) [a] [] p2) [c] scope t (((List.range j.toNat).filter g).map f) := ⟨_, _, wBlkT X scope c, wBlk X scope e, own, (pi_range1 hgr hm (pa_cons pe_w pa_nil hst) hst), ok, hg, (fun s0 H C cl fp => pts_one (pt_blk s0 H C cl fp)), (fun s0 H C cl fp => pe_blk s0 H C cl fp), hs, fun {M0 H0 M H σ} S Q q => by
  refine he.run S _ fun v M1 H1 n1 r1 => ?_
  refine ⟨j, by rw [show v = V.int j from r1], by omega, by omega, fun D hD => lc_range (lo := 0) (n := j.toNat) (fun m H' => LcI X.K t M1 H1 D (((List.range m).filter g).map f) H') (lcI_start n1.sub hD) ?_ ?_⟩
  · intro m H' hm hI
    have e0 : (0 : Int) + (m : Int) = (m : Int) := Int.zero_add _
    rw [e0]
    refine ⟨wiped hio, fun s0 H2 C cl fp => lcI_test hI (fun M' n' => St.block (S.next n1) n' _ i (s := tI) (x := (m : Int)) rfl) (htt s0 H2 C cl fp m (by omega)) fun H3 hI3 => ?_⟩
    cases hd : g m with
    | true =>
      rw [if_pos rfl]
      intro s0 H2 C cl fp
      rw [List.range_succ, List.filter_append, List.map_append, show List.filter g [m] = [m] by simp [hd]]
      have hl : (((List.range m).filter g).map f).length < 1000000 := by
        have h2 := List.length_filter_le g (List.range m)
        rw [List.length_range] at h2
        rw [List.length_map]; omega
      exact lcI_turn (X := X) rfl hD hI3 hl (fun M' n' => St.block (S.next n1) n' _ i (s := tI) (x := (m : Int)) rfl) (hel s0 H2 C cl fp m (by omega) hd)
    | false =>
      rw [if_neg (by decide)]
      rw [List.range_succ, List.filter_append, show List.filter g [m] = [] by simp [hd], List.append_nil]
      exact hI3
  · rintro H' ⟨M', ws, n', mD, hh, pr⟩
    exact q D M' H' ws (n1.trans n') (n1.ex.free hD) mD hh pr⟩
end
end TL

namespace TL
open PySem PySem.Spec PyProof.Rows L2
section
variable {α β γ ι ρ : Type} {X : Cx} {G : List Sl} {a b c e : Expr} {es : List Expr} {st : Stmt} {rest th el body : List Stmt} {s : Ty α} {t : Ty β} {u : Ty γ} {x : α} {y : β} {z : γ} {pos : Pos} {i j : Int} {xs ys : List α} {p q : Bool} {R : Out} {k : Nat}

/-! ### xs[i] op= e, xs of the frame's own -/
theorem get_list : PGet X (rIxL X.K) := by
  intro pins s σ H o i ov iv Q I ro ri h
  obtain ⟨p, xs, k, z, rfl, rfl, hq, he, q⟩ := h
  cases ro
  obtain ⟨t, rfl⟩ := ri
  obtain ⟨its, r, pl, hz⟩ := I.list hq
  have hl := r.length
  have hn := line63
  obtain ⟨j, h1, h2, h3, h4, h5⟩ := atI_get he
  obtain ⟨w, ew, rw'⟩ := r.get h2
  have fin : EP X pins σ Q w s := ⟨z, H, I, rw', q⟩
  by_cases h0 : 0 ≤ k
  · have hj : k.toNat = j := by
      rw [seqIndex_of h0 h5] at h1
      exact Option.some.inj h1
    exact wpAny_getItem_list pl.isList h0 (by omega) (by rw [hj]; simpa using ew) fin
  · have hj : (k + (its.toArray.size : Int)).toNat = j := by
      rw [seqIndex_neg (by omega) h4] at h1
      rw [List.size_toArray, ← hl]
      exact Option.some.inj h1
    exact wpAny_getItem_list_neg pl.isList (by omega) (by rw [List.size_toArray] <;> omega) (by omega) (by rw [hj]; simpa using ew) fin
theorem s_augI (m : Nat) {n : Str} {p1 p2 : Pos} {ib : Expr} {ns : List Int} {l : Nat} {d : Int} (h0 : G[m]? = some (.ow tI ns)) (hib : E X G ib tI i) (he : E X G e tI j) (hl : ixN ns.length i = some l) (hd0 : ns[l]? = some d) (h : R.nx (G.set m (.ow tI (ns.set l (d + j))))) (hi : X.N[m]? = some n := by rfl)
    (hv : Vis X.env.scope n := by first | exact Or.inl rfl | exact Or.inr (Or.inl rfl) | exact Or.inr (Or.inr rfl))
    (hd : (n == ("__debug__" : Str)) = false := by decide) (hcd : (n == ("__classdict__" : Str)) = false := by decide)
    (ha : ∀ ov iv new, augStore ib ov iv new = (do holding [new, ov, iv] (setItem ov iv new); release [new, ov, iv] []; pure .next) := by intros; rfl) :
    S1 X G (.AugAssign (.Subscript (.Name n p1) ib p2) .Add e pos) R := ⟨fun D E S tk f => by
  refine ⟨_, ps_augS (pe_var hi hv hd hcd) pe_w get_list pe_w ip_add set_list ha, ?_⟩
  obtain ⟨a0, vs0, e0, hh0, _, _, _⟩ := S.putOwn (ys := ns) h0
  refine ⟨.ref a0, e0, hib.run S _ fun w M1 H1 n1 r1 => ?_⟩
  obtain ⟨a1, vs1, e1, hh1, mp1, pr1, _⟩ := (S.next n1).putOwn (ys := ns) h0
  rw [e0] at e1; cases e1
  have e4 := paired_int pr1
  subst e4
  have hat : atI (ns.map V.int) i = some (.int d) := by
    unfold atI
    rw [List.length_map, hl]
    show (ns.map V.int)[l]? = _
    rw [List.getElem?_map, hd0]; rfl
  refine ⟨a0, _, i, .int d, rfl, r1, SqL.of hh1, hat, he.run (S.next n1) _ fun w2 M2 H2 n2 r2 => ?_⟩
  refine ⟨d, j, rfl, r2, ?_⟩
  obtain ⟨a2, vs2, e2, hh2, mp2, pr2, upd'⟩ := (S.next (n1.trans n2)).putOwn (ys := ns.set l (d + j)) h0
  rw [e0] at e2; cases e2
  refine ⟨a0, vs2, i, l, rfl, r1, hh2, by rw [pr2.length]; exact hl, f.nx (upd' _ (paired_set (show tI.rep X.K _ (.int (d + j)) (d + j) from rfl) l pr2)) h⟩⟩
/-! ### a, b = e; for a, b in xs -/
theorem s_unp2 (m1 m2 : Nat) {n1 n2 : Str} {q1 q2 q3 : Pos} {kt : Nat} (he : E X G e (tP2 s t) (x, y)) (h : R.nx ((G.set m1 (.vl s x)).set m2 (.vl t y))) (hN : X.N.Nodup) (hcm : X.calm = true) (hi1 : X.N[m1]? = some n1 := by rfl) (hi2 : X.N[m2]? = some n2 := by rfl)
    (hx1 : Loc X.env.scope n1 := by first | exact Or.inl rfl | exact Or.inr rfl) (hx2 : Loc X.env.scope n2 := by first | exact Or.inl rfl | exact Or.inr rfl) (hf1 : X.fn n1 = true ∨ X.env.scope.names.lookup n1 = some .local := by first | exact .inl rfl | exact .inr rfl) (hf2 : X.fn n2 = true ∨ X.env.scope.names.lookup n2 = some .local := by first | exact .inl rfl | exact .inr rfl)
    (hs1 : (assignEach [.Name n1 q1, .Name n2 q2] X.env).map (·.2) = assign (.Name n1 q1) X.env :: (assignEach [.Name n2 q2] X.env).map (·.2) := by rfl) (hs2 : (assignEach [.Name n2 q2] X.env).map (·.2) = assign (.Name n2 q2) X.env :: (assignEach [] X.env).map (·.2) := by rfl)
    (hn : (assignEach [.Name n1 q1, .Name n2 q2] X.env).length = 2 := by rfl) (hst : (assignEach [.Name n1 q1, .Name n2 q2] X.env).findIdx? (·.1) = none := by rfl)
    (hs : swapsWithSole [.Tuple [.Name n1 q1, .Name n2 q2] kt q3] e pos.line X.env = pure false := by rfl) (hw : swappedStores [.Tuple [.Name n1 q1, .Name n2 q2] kt q3] e X.env = pure none := by rfl)
    (h1 : (assignEach [.Tuple [.Name n1 q1, .Name n2 q2] kt q3] X.env).map (·.2) = [assign (.Tuple [.Name n1 q1, .Name n2 q2] kt q3) X.env] := by rfl) :
    S1 X G (.Assign [.Tuple [.Name n1 q1, .Name n2 q2] kt q3] e pos) R := ⟨fun D E S tk f =>
  ⟨_, ps_asg pe_w (pg_tup hcm (pgs_cons (pg_name hN hi1 hx1 hf1) (pgs_cons (pg_name hN hi2 hx2 hf2) pgs_nil hs2) hs1) hn hst) hs hw h1, he.run S _ fun v M1 H1 n1 r1 => by
    obtain ⟨a, v1, v2, e1, e2, e3, e4⟩ := r1
    exact ⟨a, [v1, v2], e1, sqT_ext n1.sub e2, rfl, v1, [v2], rfl, v2, [], rfl, rfl, f.nx (((S.next n1).set (s := .vl s x) e3).set (s := .vl t y) e4) h⟩⟩⟩
theorem s_forL2 (m1 m2 : Nat) {n1 n2 : Str} {q1 q2 q3 : Pos} {kt : Nat} {zs : List (α × β)} (I : Nat → List Sl → Prop) (G0 : List Sl) (he : E X G a (tLst (tP2 s t)) zs) (w0 : Sub G G0) (h0 : I 0 G0)
    (hs : ∀ m x y G', zs[m]? = some (x, y) → I m G' → B X ((G'.set m1 (.vl s x)).set m2 (.vl t y)) body ⟨I (m + 1), R.rt, R.nx, I (m + 1), R.xc⟩) (hd : ∀ G', I zs.length G' → R.nx G')
    (hN : X.N.Nodup) (hcm : X.calm = true) (hi1 : X.N[m1]? = some n1 := by rfl) (hi2 : X.N[m2]? = some n2 := by rfl)
    (hx1 : Loc X.env.scope n1 := by first | exact Or.inl rfl | exact Or.inr rfl) (hx2 : Loc X.env.scope n2 := by first | exact Or.inl rfl | exact Or.inr rfl) (hf1 : X.fn n1 = true ∨ X.env.scope.names.lookup n1 = some .local := by first | exact .inl rfl | exact .inr rfl) (hf2 : X.fn n2 = true ∨ X.env.scope.names.lookup n2 = some .local := by first | exact .inl rfl | exact .inr rfl)
    (hs1 : (assignEach [.Name n1 q1, .Name n2 q2] X.env).map (·.2) = assign (.Name n1 q1) X.env :: (assignEach [.Name n2 q2] X.env).map (·.2) := by rfl) (hs2 : (assignEach [.Name n2 q2] X.env).map (·.2) = assign (.Name n2 q2) X.env :: (assignEach [] X.env).map (·.2) := by rfl)
    (hn : (assignEach [.Name n1 q1, .Name n2 q2] X.env).length = 2 := by rfl) (hst : (assignEach [.Name n1 q1, .Name n2 q2] X.env).findIdx? (·.1) = none := by rfl)
    (hp : PassesOwn (model X.prog X.w) X.A X.env X.xe := by first | exact PassesOwn.never | assumption)
    (hfs : ∀ x, foldedSetIterable a X.env x = pure x := by intro _; rfl) : S1 X G (.For (.Tuple [.Name n1 q1, .Name n2 q2] kt q3) a body [] pos) R := ⟨fun {M0 H0 M H σ} D E S tk f =>
  ⟨_, ps_for hp hcm (pi_list pe_w) (pg_tup hcm (pgs_cons (pg_name hN hi1 hx1 hf1) (pgs_cons (pg_name hN hi2 hx2 hf2) pgs_nil hs2) hs1) hn hst) pss_w hfs, he.run S _ fun v M1 H1 n1 r1 => by
    obtain ⟨p, vs, e1, e2, e3⟩ := r1
    have n0 := S.nx.trans n1
    refine ⟨p, e1, ⟨vs, SqL.of (n1.sub _ _ e2)⟩, for_list (K := X.K) (a := p) (xs := vs) (fun m σ' H' => ∃ M' G', St X.K M1 H0 M' H' σ' G' ∧ I m G') ⟨M1, G0, ((S.next n1).weak w0).rebase, h0⟩ (fun m σ' H' _ ⟨M', G', S', _⟩ => SqL.of (S'.sub _ _ (S'.nx.vx _ _ e2))) ?_ ?_⟩
    · rintro m w σ' H' hm ⟨M', G', S', hI⟩
      obtain ⟨⟨x', y'⟩, g1, g2⟩ := paired_get' e3 hm
      obtain ⟨pa, v1, v2, f1, f2, f3, f4⟩ := g2
      exact ⟨pa, [v1, v2], f1, sqT_ext (S'.nx.vx.trans S'.sub) f2, rfl, v1, [v2], rfl, v2, [], rfl, rfl, (hs m x' y' G' g1 hI).run _ E ((S'.set (s := .vl s x') (v := v1) (s.ext S'.nx.vx f3)).set (s := .vl t y') (v := v2) (t.ext S'.nx.vx f4)) tk
        ⟨fun S2 h2 => ⟨_, _, S2, h2⟩, fun n2 h2 => f.rt (n0.unbase n2) h2, fun S2 h2 => f.nx (S2.unbase n0) h2, fun S2 h2 => ⟨_, _, S2, h2⟩, fun n2 h2 => f.xc (n0.unbase n2) h2⟩⟩
    · rintro σ' H' ⟨M', G', S', hI⟩
      rw [e3.length] at hI
      exact f.nx (S'.unbase n0) (hd G' hI)⟩⟩
/-! ### fields -/
theorem e_fld {C : Addr} {fs : α → List (Str × Cl)} {nm : Str} {cl : Cl} (he : E X G a (tOb C fs) x) (hc : Cls X.K C) (hn : NoAttr X.K C nm) (hl : (fs x).lookup nm = some cl) (hb : attributeBase a nm X.env (eval a X.env) = eval a X.env := by rfl) : E X G (.Attribute a nm pos) cl.t cl.x := ⟨fun S Q k =>
  ⟨_, pe_fld pe_w hb, he.run S _ fun v M1 H1 n1 r1 => by
    obtain ⟨p, dx, vs, e1, e2, e3⟩ := r1
    obtain ⟨w, g1, g2⟩ := freps_lookup e3 hl
    exact ⟨p, C, dx, vs, w, e1, n1.sub _ _ e2, hc, hn, g1, k w M1 H1 n1 g2⟩⟩⟩
theorem lookup_putF_reps {K : Fg} {M : Hp} {f : Str} {v : V} {c : Cl} (h : c.t.rep K M v c.x) : ∀ {vs : List (Str × V)} {cs : List (Str × Cl)}, FReps K M vs cs → cs.lookup f = none → FReps K M (putF f v vs) (cs ++ [(f, c)])
  | _, _, .nil, _ => .cons h .nil
  | _, _, .cons (f := g) (v := u) (c := d) h' r, e => by
    by_cases z : f = g
    · subst z; simp [List.lookup] at e
    · have z' : (f == g) = false := by simpa using z
      simp only [List.lookup, z'] at e
      show FReps K M (if g = f then _ else _) _
      rw [if_neg (Ne.symm z)]
      exact .cons h' (lookup_putF_reps h r e)
/-- self.f = e, the first store to this field -/
theorem s_fldNew (m : Nat) {n : Str} {p1 p2 : Pos} {p dx C : Addr} {fs : List (Str × Cl)} {nm : Str} (h0 : G[m]? = some (.ob p dx C fs)) (he : E X G e s x) (hc : Cls X.K C) (hna : NoAttr X.K C nm) (hl : fs.lookup nm = none) (hz : fs.length < 1000) (h : R.nx (G.set m (.ob p dx C (fs ++ [(nm, ⟨s, x⟩)])))) (hi : X.N[m]? = some n := by rfl)
    (hv : Vis X.env.scope n := by first | exact Or.inl rfl | exact Or.inr (Or.inl rfl) | exact Or.inr (Or.inr rfl))
    (hd : (n == ("__debug__" : Str)) = false := by decide) (hcd : (n == ("__classdict__" : Str)) = false := by decide)
    (hs : swapsWith e (some (.Attribute (.Name n p1) nm p2)) pos.line X.env = pure false := by rfl) : S1 X G (.Assign [.Attribute (.Name n p1) nm p2] e pos) R := ⟨fun D E S tk f => by
  refine ⟨_, ps_fld (pe_var hi hv hd hcd) pe_w hs, he.run S _ fun v M1 H1 n1 r1 => ?_⟩
  obtain ⟨vs, e1, hh, hm, fr, upd'⟩ := (S.next n1).putOb (fs' := fs ++ [(nm, ⟨s, x⟩)]) h0
  exact ⟨.ref p, e1, p, C, dx, vs, rfl, hh, hc, hna, by rw [freps_len fr]; exact hz, f.nx (upd' _ (lookup_putF_reps (c := ⟨s, x⟩) r1 fr hl)) h⟩⟩
/-! ### __init__ and C(..) -/
/-- the promise of an __init__: it leaves an instance with these fields -/
def spI (K : Fg) (C : Addr) (ar : ι → List Sl) (pre : ι → Prop) (fs : ι → List (Str × Cl)) : Sp := fun vs H Q _ =>
  ∃ (i : ι) (M H1 : Hp) (x dx : Addr) (vs' : List V), vs = .ref x :: vs' ∧ Same M H1 ∧ H1 x = none ∧ H1 dx = none ∧ dx ≠ x ∧ H = upd (upd H1 dx (.own x)) x (.ins C dx []) ∧ Reps K M vs' (ar i) ∧ pre i ∧
    ∀ M' H' us, Nx M H1 M' H' → M' x = none → M' dx = none → H' x = some (.ins C dx us) → H' dx = some (.own x) → FReps K M' us (fs i) → Q .non H'
theorem e_make {P : Program} {w : World} {K : Fg} {mg : Str → Option Value} {base : Heap} {n : Str} {C f : Addr} {fd : FuncData} {ps : List Str} {ar : ι → List Sl} {pre : ι → Prop} {fs : ι → List (Str × Cl)} {p : Pos} (M : Mk K C f) (F : FnOk P w K mg base CX0 k f fd ps (spI K C ar pre fs)) (hr : Room (k + 1) X.A) (hm : mg n = some (.ref C)) (hb : Binds K fd ps []) (i : ι) (ha : EA X G (e :: es) (ar i)) (hp : pre i)
    (hg : Gl X n := by rfl) (hdb : (n == ("__debug__" : Str)) = false := by decide) (he : starEach (e :: es) X.env = (false, eval e X.env) :: starEach es X.env := by rfl) (hpl : (backTo pos (starEach es X.env)).any (·.1) = false := by rfl)
    (xP : X.prog = P := by rfl) (xw : X.w = w := by rfl) (xK : X.K = K := by rfl) (xm : X.mg = mg := by rfl) (xb : X.base = base := by rfl) : E X G (.Call (.Name n p) (e :: es) [] pos) (tOb C fs) i := ⟨fun S Q q => by
  subst xP xw xK xm xb
  exact ⟨_, pe_make M F hr hg hm hb .nil pass0 pa_w hdb he hpl, ha.run S _ fun vs M1 H1 n1 r1 => fun x dx hx hdx ne => by
    rw [List.append_nil]
    refine ⟨i, M1, H1, x, dx, vs, rfl, n1.sub, hx, hdx, ne, rfl, r1, hp, fun M' H' us n2 mx md hh hd fr => ⟨rfl, ?_⟩⟩
    refine q _ (upd M' x (.ins C dx us)) H' (n1.trans ⟨n2.ex, n2.vx.trans (same_new mx), fun b o e => ?_, fun b q1 q2 => ?_⟩) ⟨x, dx, us, rfl, upd_same, freps_ext (same_new mx) fr⟩
    · by_cases z : b = x
      · subst z; rw [upd_same] at e; cases e; exact hh
      · rw [upd_ne z] at e; exact n2.sub b o e
    · rw [upd_ne (fun z => q2 (by rw [z]; exact hx))]; exact n2.fr b q1 q2⟩⟩
/-- the state at an __init__'s entry -/
theorem st_startI {K : Fg} {M H1 : Hp} {C x dx : Addr} {vs : List V} {ss : List Sl} {N : List Str} {n : Nat} (m : Same M H1) (hx : H1 x = none) (hdx : H1 dx = none) (ne : dx ≠ x) (r : Reps K M vs ss) (hn : N.length = ss.length + 1 + n) :
    St K M H1 M (upd (upd H1 dx (.own x)) x (.ins C dx [])) (L2.start N (.ref x :: vs)) (.ob x dx C [] :: (ss ++ List.replicate n .un)) := by
  have hl := reps_len r
  have nx1 : Nx M H1 M (upd (upd H1 dx (.own x)) x (.ins C dx [])) := by
    have e1 := nx_lay (o := .own x) m hdx
    have e2 := nx_lay (o := .ins C dx []) e1.sub (p := x) (by rw [upd_ne ne.symm]; exact hx)
    exact ⟨e1.ex.trans e2.ex, Same.refl _, e2.sub, fun _ q _ => q⟩
  obtain ⟨N1, N2, hN⟩ : ∃ n1 N', N = n1 :: N' := by
    cases N with
    | nil => simp at hn; omega
    | cons a b => exact ⟨a, b, rfl⟩
  have S0 := (st_start (N := N2) (K := K) (n := n) m r (by rw [hN] at hn; simp at hn; omega)).next nx1
  obtain ⟨A, h1, h2⟩ := S0.sl
  have noown : ∀ (j : Nat) (t' : Sl), (ss ++ List.replicate n Sl.un)[j]? = some t' → t'.own = false := fun j t' e => by
    by_cases h : j < ss.length
    · rw [List.getElem?_append_left h] at e; exact reps_noown r e
    · rw [List.getElem?_append_right (Nat.le_of_not_lt h)] at e
      obtain ⟨l, e3⟩ := List.getElem?_eq_some_iff.mp e
      rw [List.getElem_replicate] at e3
      subst e3; rfl
  refine ⟨nx1, ?_, fun j => if j = 0 then [x] else A (j - 1), fun j u e => ?_, fun j l u v e1 e2 o1 o2 nn y hy => ?_⟩
  · unfold L2.start
    rw [hN]
    simp only [List.map_cons, List.length_append, List.length_cons, List.length_map, List.length_replicate]
    rw [hN] at hn; simp at hn; omega
  · cases j with
    | zero =>
      simp at e
      subst e
      exact ⟨some (.ref x), by unfold L2.start; rfl, rfl, rfl, hx, same_none m hx, [], upd_same, by rw [upd_ne ne, upd_same], hdx, same_none m hdx, .nil⟩
    | succ j =>
      have e' : (ss ++ List.replicate n Sl.un)[j]? = some u := by simpa using e
      obtain ⟨o, q1, q2⟩ := h1 j u e'
      refine ⟨o, ?_, ?_⟩
      · unfold L2.start at q1 ⊢
        rw [hN]
        simp only [List.map_cons, List.cons_append, List.length_cons, List.getElem?_cons_succ, Nat.add_sub_add_right]
        exact q1
      · show Ok1 K H1 M _ o (if j + 1 = 0 then [x] else A (j + 1 - 1)) u
        rw [if_neg (Nat.succ_ne_zero j)]
        exact q2
  · cases j with
    | zero =>
      cases l with
      | zero => exact absurd rfl nn
      | succ l => rw [noown l v (by simpa using e2)] at o2; cases o2
    | succ j => rw [noown j u (by simpa using e1)] at o1; cases o1
theorem fn_init {P : Program} {w : World} {K : Fg} {mg : Str → Option Value} {base : Heap} {x qual : Str} {st : Stmt} {f C : Addr} {fd : FuncData} {N ps : List Str} {k : Nat} {ar : ι → List Sl} {pre : ι → Prop} {fs : ι → List (Str × Cl)} (F : Fun K x qual st f fd) (S : FnScope N ps (defScope st)) (n : Nat)
    (hn : N.length = ps.length + n) (hl : ∀ i, (ar i).length + 1 = ps.length)
    (hb : ∀ (cdv : Value) (A : Around) (outer : List Env) (s : Shared) (H : Hp) (E : XK), Room k (A.deeper (envOfC qual (defScope st) s.heap.objs.size f cdv)) → ∀ i p dx, pre i →
      B (cxOf CX0 P w K mg base N qual (defScope st) f cdv A outer s H E).nox (.ob p dx C [] :: (ar i ++ List.replicate n .un)) (defBody st) { nx := fun G' => G'[0]? = some (.ob p dx C (fs i)), rt := fun _ _ => False }) : FnOk P w K mg base CX0 (k + 1) f fd ps (spI K C ar pre fs) := by
  refine F.ok S (fun vs H Q E h => ?_) (fun cdv A outer s H vs Q E hr h => ⟨_, pss_w, ?_⟩)
  · obtain ⟨i, M, H1, x, dx, vs', rfl, _, _, _, _, _, r, _⟩ := h
    rw [List.length_cons, reps_len r, hl]
  · obtain ⟨i, M, H1, x, dx, vs', rfl, m, hx, hdx, ne, rfl, r, hp, q⟩ := h
    refine (hb cdv A outer s _ E hr i x dx hp).run _ (fun _ _ _ => False) (st_startI m hx hdx ne r (by have := hl i; omega)) takes_false ⟨fun {M' H' σ' G'} S' h => ?_, fun n2 h => h.elim, fun _ h => h.elim, fun _ h => h.elim, fun _ h => h.elim⟩
    obtain ⟨us, e1, e2, e3, e4, e5, e6⟩ := S'.getOb h
    exact q _ _ us S'.nx e4 e5 e2 e3 e6
end
end TL

namespace TL
open PySem PySem.Spec PyProof.Rows L2
theorem kb_NoneType_int : kitB "NoneType" "int" = some false := by decide +kernel
theorem kb_NoneType_bool : kitB "NoneType" "bool" = some false := by decide +kernel
theorem kb_NoneType_str : kitB "NoneType" "str" = some false := by decide +kernel
theorem kb_NoneType_list : kitB "NoneType" "list" = some false := by decide +kernel
theorem kb_NoneType_tuple : kitB "NoneType" "tuple" = some false := by decide +kernel
theorem kb_bool_int : kitB "bool" "int" = some true := by decide +kernel
theorem kb_bool_bool : kitB "bool" "bool" = some true := by decide +kernel
theorem kb_bool_str : kitB "bool" "str" = some false := by decide +kernel
theorem kb_bool_list : kitB "bool" "list" = some false := by decide +kernel
theorem kb_bool_tuple : kitB "bool" "tuple" = some false := by decide +kernel
theorem kb_int_int : kitB "int" "int" = some true := by decide +kernel
theorem kb_int_bool : kitB "int" "bool" = some false := by decide +kernel
theorem kb_int_str : kitB "int" "str" = some false := by decide +kernel
theorem kb_int_list : kitB "int" "list" = some false := by decide +kernel
theorem kb_int_tuple : kitB "int" "tuple" = some false := by decide +kernel
theorem kb_str_int : kitB "str" "int" = some false := by decide +kernel
theorem kb_str_bool : kitB "str" "bool" = some false := by decide +kernel
theorem kb_str_str : kitB "str" "str" = some true := by decide +kernel
theorem kb_str_list : kitB "str" "list" = some false := by decide +kernel
theorem kb_str_tuple : kitB "str" "tuple" = some false := by decide +kernel
theorem kb_list_int : kitB "list" "int" = some false := by decide +kernel
theorem kb_list_bool : kitB "list" "bool" = some false := by decide +kernel
theorem kb_list_str : kitB "list" "str" = some false := by decide +kernel
theorem kb_list_list : kitB "list" "list" = some true := by decide +kernel
theorem kb_list_tuple : kitB "list" "tuple" = some false := by decide +kernel
theorem kb_tuple_int : kitB "tuple" "int" = some false := by decide +kernel
theorem kb_tuple_bool : kitB "tuple" "bool" = some false := by decide +kernel
theorem kb_tuple_str : kitB "tuple" "str" = some false := by decide +kernel
theorem kb_tuple_list : kitB "tuple" "list" = some false := by decide +kernel
theorem kb_tuple_tuple : kitB "tuple" "tuple" = some true := by decide +kernel
/-! ### data: what type it has -/
def tyN : PyData → String
  | .none => "NoneType"
  | .bool _ => "bool"
  | .int _ => "int"
  | .str _ => "str"
  | .list _ => "list"
  | .tuple _ => "tuple"
  | .dict _ => "dict"
def isID : PyData → Bool
  | .int _ => true
  | .bool _ => true
  | _ => false
theorem kbI : ∀ d : PyData, kitB (tyN d) "int" = some (isID d)
  | .none => (by decide +kernel : kitB "NoneType" "int" = some false)
  | .bool _ => (by decide +kernel : kitB "bool" "int" = some true)
  | .int _ => (by decide +kernel : kitB "int" "int" = some true)
  | .str _ => (by decide +kernel : kitB "str" "int" = some false)
  | .list _ => (by decide +kernel : kitB "list" "int" = some false)
  | .tuple _ => (by decide +kernel : kitB "tuple" "int" = some false)
  | .dict _ => (by decide +kernel : kitB "dict" "int" = some false)
def isBD : PyData → Bool
  | .bool _ => true
  | _ => false
theorem kbB : ∀ d : PyData, kitB (tyN d) "bool" = some (isBD d)
  | .none => (by decide +kernel : kitB "NoneType" "bool" = some false)
  | .bool _ => (by decide +kernel : kitB "bool" "bool" = some true)
  | .int _ => (by decide +kernel : kitB "int" "bool" = some false)
  | .str _ => (by decide +kernel : kitB "str" "bool" = some false)
  | .list _ => (by decide +kernel : kitB "list" "bool" = some false)
  | .tuple _ => (by decide +kernel : kitB "tuple" "bool" = some false)
  | .dict _ => (by decide +kernel : kitB "dict" "bool" = some false)
def isSD : PyData → Bool
  | .str _ => true
  | _ => false
theorem kbS : ∀ d : PyData, kitB (tyN d) "str" = some (isSD d)
  | .none => (by decide +kernel : kitB "NoneType" "str" = some false)
  | .bool _ => (by decide +kernel : kitB "bool" "str" = some false)
  | .int _ => (by decide +kernel : kitB "int" "str" = some false)
  | .str _ => (by decide +kernel : kitB "str" "str" = some true)
  | .list _ => (by decide +kernel : kitB "list" "str" = some false)
  | .tuple _ => (by decide +kernel : kitB "tuple" "str" = some false)
  | .dict _ => (by decide +kernel : kitB "dict" "str" = some false)
def isLD : PyData → Bool
  | .list _ => true
  | _ => false
theorem kbL : ∀ d : PyData, kitB (tyN d) "list" = some (isLD d)
  | .none => (by decide +kernel : kitB "NoneType" "list" = some false)
  | .bool _ => (by decide +kernel : kitB "bool" "list" = some false)
  | .int _ => (by decide +kernel : kitB "int" "list" = some false)
  | .str _ => (by decide +kernel : kitB "str" "list" = some false)
  | .list _ => (by decide +kernel : kitB "list" "list" = some true)
  | .tuple _ => (by decide +kernel : kitB "tuple" "list" = some false)
  | .dict _ => (by decide +kernel : kitB "dict" "list" = some false)
def isTD : PyData → Bool
  | .tuple _ => true
  | _ => false
theorem kbT : ∀ d : PyData, kitB (tyN d) "tuple" = some (isTD d)
  | .none => (by decide +kernel : kitB "NoneType" "tuple" = some false)
  | .bool _ => (by decide +kernel : kitB "bool" "tuple" = some false)
  | .int _ => (by decide +kernel : kitB "int" "tuple" = some false)
  | .str _ => (by decide +kernel : kitB "str" "tuple" = some false)
  | .list _ => (by decide +kernel : kitB "list" "tuple" = some false)
  | .tuple _ => (by decide +kernel : kitB "tuple" "tuple" = some true)
  | .dict _ => (by decide +kernel : kitB "dict" "tuple" = some false)
/-- an int that is no bool -/
def wholeD : PyData → Bool
  | .int _ => true
  | _ => false
theorem wholeD_eq (d : PyData) : wholeD d = (isID d && !isBD d) := by cases d <;> rfl
def spWhole (K : Fg) : Sp := spG K (fun d : PyData => [.vl tD d]) (fun _ => True) tB wholeD
theorem tyx_L {K : Fg} {M H : Hp} {a : Addr} {vs : List V} (m : Same M H) (h : SqL K M a vs) : TyX K H (.ref a) (.type "list") := by
  rcases h with (h | ⟨o, h⟩) | ⟨o, its, n, h1, h2, _⟩
  · exact .base (.lst (m _ _ h))
  · exact .base (.frz (m _ _ h))
  · exact .kList h1 h2
theorem tyx_T {K : Fg} {M H : Hp} {a : Addr} {vs : List V} (m : Same M H) (h : SqT K M a vs) : TyX K H (.ref a) (.type "tuple") := by
  rcases h with (h | ⟨o, h⟩) | ⟨o, its, n, h1, h2, _⟩
  · exact .base (.tup (m _ _ h))
  · exact .fTuple (m _ _ h)
  · exact .kTuple h1 h2
theorem tyx_D {K : Fg} {M H : Hp} {v : V} {d : PyData} (m : Same M H) (h : Dp K M v d) : TyX K H v (.type (tyN d)) := by
  cases h with
  | non => exact .base .non
  | bl b => exact .base (.bl b)
  | int i => exact .base (.int i)
  | str x => exact .base (.str x)
  | lst h1 h2 => exact tyx_L m h1
  | tup h1 h2 => exact tyx_T m h1
section
variable {α β γ ι ρ : Type} {X : Cx} {G : List Sl} {a b c e : Expr} {es : List Expr} {s : Ty α} {t : Ty β} {x : α} {y : β} {pos : Pos} {k : Nat}
theorem e_Tlist (b : X.mg "list" = none) (hg : Gl X "list" := by rfl) : E X G (.Name "list" pos) tC (.ty "list") := e_ty (nm := "list") b (by decide +kernel) hg
theorem e_Ttuple (b : X.mg "tuple" = none) (hg : Gl X "tuple" := by rfl) : E X G (.Name "tuple" pos) tC (.ty "tuple") := e_ty (nm := "tuple") b (by decide +kernel) hg
theorem e_Tint (b : X.mg "int" = none) (hg : Gl X "int" := by rfl) : E X G (.Name "int" pos) tC (.ty "int") := e_ty (nm := "int") b (by decide +kernel) hg
theorem e_Tbool (b : X.mg "bool" = none) (hg : Gl X "bool" := by rfl) : E X G (.Name "bool" pos) tC (.ty "bool") := e_ty (nm := "bool") b (by decide +kernel) hg
theorem e_Tstr (b : X.mg "str" = none) (hg : Gl X "str" := by rfl) : E X G (.Name "str" pos) tC (.ty "str") := e_ty (nm := "str") b (by decide +kernel) hg
/-- isinstance(x, T), T a built-in type, x data -/
theorem e_isD {p : Pos} {nm : String} {d : Bool} {dd : PyData} (hm : X.mg "isinstance" = none) (ha : E X G a s x) (hb : E X G b tC (.ty nm)) (ht : ∀ M v, s.rep X.K M v x → Dp X.K M v dd) (hk : kitB (tyN dd) nm = some d) (hg : Gl X "isinstance" := by rfl)
    (he : starEach [a, b] X.env = (false, eval a X.env) :: starEach [b] X.env := by rfl) (he2 : starEach [b] X.env = (false, eval b X.env) :: starEach [] X.env := by rfl) (hpl : (backTo pos (starEach [b] X.env)).any (·.1) = false := by rfl) : E X G (.Call (.Name "isinstance" p) [a, b] [] pos) tB d :=
  e_isi hm ha hb (fun M v r => ⟨.type (tyN dd), .type nm, .ty nm, fun H m => tyx_D m (ht M v r), kit_ty hk⟩) hg he he2 hpl
/-- isinstance(x, C), C a class of one's own, x data: no -/
theorem kit_own_no {K : Fg} {nm : String} {C : Addr} (h : PySem.W.kitOne K (.type nm) (.ref C) = some false) : PySem.W.kitOne K (.type nm) (.ref C) = some false := h
/-- isinstance(x, (A, B)), built-in types -/
theorem e_isD2 {p p1 : Pos} {n : Nat} {nm1 nm2 : String} {d1 d2 : Bool} {dd : PyData} (hm : X.mg "isinstance" = none) (ha : E X G a s x) (hb : E X G b tC (.ty nm1)) (hc : E X G c tC (.ty nm2)) (ht : ∀ M v, s.rep X.K M v x → Dp X.K M v dd) (hk1 : kitB (tyN dd) nm1 = some d1) (hk2 : kitB (tyN dd) nm2 = some d2) (hg : Gl X "isinstance" := by rfl)
    (he : starEach [a, .Tuple [b, c] n p1] X.env = (false, eval a X.env) :: starEach [.Tuple [b, c] n p1] X.env := by rfl) (he2 : starEach [.Tuple [b, c] n p1] X.env = (false, eval (.Tuple [b, c] n p1) X.env) :: starEach [] X.env := by rfl) (hpl : (backTo pos (starEach [.Tuple [b, c] n p1] X.env)).any (·.1) = false := by rfl)
    (hs : starEach [b, c] X.env = (false, eval b X.env) :: starEach [c] X.env := by rfl) (hs2 : starEach [c] X.env = (false, eval c X.env) :: starEach [] X.env := by rfl) : E X G (.Call (.Name "isinstance" p) [a, .Tuple [b, c] n p1] [] pos) tB (d1 || d2) := ⟨fun S Q k =>
  ⟨_, pe_callB call_isiT hg hm (by decide +kernel) (pa_cons pe_w (pa_cons (pe_tup (pa_cons pe_w (pa_cons pe_w pa_nil hs2) hs)) pa_nil he2) he) (by decide) (by decide) he hpl, ha.run S _ fun v M1 H1 n1 r1 => hb.run (S.next n1) _ fun w M2 H2 n2 r2 => hc.run (S.next (n1.trans n2)) _ fun w' M3 H3 n3 r3 => ⟨by show 2 ≤ sizeLine; decide, fun q hq => by
    have nn := Nx.new (o := .tup [w, w']) n3.sub hq
    refine ⟨v, q, [w, w'], .type (tyN dd), [.type nm1, .type nm2], d1 || d2, rfl, upd_same, ?_, tyx_D (((n2.vx.trans n3.vx).trans n3.sub).trans (same_new hq)) (ht M1 v r1), ?_, k _ _ _ (((n1.trans n2).trans n3).trans nn) rfl⟩
    · rw [show w = V.ty nm1 from r2, show w' = V.ty nm2 from r3]; exact .cons (.ty nm1) (.cons (.ty nm2) .nil)
    · refine kitAny_cons (kit_ty hk1) (fun h => ?_) (fun h => by rw [h]; rfl)
      refine kitAny_cons (kit_ty hk2) (fun h' => ?_) (fun h' => by rw [h']; simp)
      rw [h, h']; rfl⟩⟩⟩
end
/-! ### typed things as data -/
section
variable {K : Fg} {M : Hp} {v : V} {α : Type} {s : Ty α} {f : α → PyData}
theorem dp_I {i : Int} (h : tI.rep K M v i) : Dp K M v (.int i) := by rw [show v = V.int i from h]; exact .int i
theorem dp_B {i : Bool} (h : tB.rep K M v i) : Dp K M v (.bool i) := by rw [show v = V.bl i from h]; exact .bl i
theorem dp_S {i : Str} (h : tS.rep K M v i) : Dp K M v (.str i) := by rw [show v = V.str i from h]; exact .str i
theorem dp_N (h : tN.rep K M v ()) : Dp K M v .none := by rw [show v = V.non from h]; exact .non
theorem dp_all (hf : ∀ v x, s.rep K M v x → Dp K M v (f x)) : ∀ {vs : List V} {xs : List α}, Paired (s.rep K M) vs xs → DpAll K M vs (xs.map f)
  | _, _, .nil => .nil
  | _, _, .cons h t => .cons (hf _ _ h) (dp_all hf t)
theorem dp_T (hf : ∀ v x, s.rep K M v x → Dp K M v (f x)) {xs : List α} (h : (tTup s).rep K M v xs) : Dp K M v (.tuple (xs.map f)) := by
  obtain ⟨a, vs, rfl, h2, h3⟩ := h
  exact .tup h2 (dp_all hf h3)
theorem dp_L (hf : ∀ v x, s.rep K M v x → Dp K M v (f x)) {xs : List α} (h : (tLst s).rep K M v xs) : Dp K M v (.list (xs.map f)) := by
  obtain ⟨a, vs, rfl, h2, h3⟩ := h
  exact .lst (SqL.of h2) (dp_all hf h3)
theorem pd_I {i : Int} (h : Dp K M v (.int i)) : tI.rep K M v i := by cases h; rfl
theorem pd_all (hf : ∀ v x, Dp K M v (f x) → s.rep K M v x) : ∀ {vs : List V} {xs : List α}, DpAll K M vs (xs.map f) → Paired (s.rep K M) vs xs
  | _, [], h => by
    cases h; exact .nil
  | _, x :: xs, h => by
    cases h with
    | cons h t => exact .cons (hf _ _ h) (pd_all hf t)
theorem pd_T (hf : ∀ v x, Dp K M v (f x) → s.rep K M v x) {xs : List α} (h : Dp K M v (.tuple (xs.map f))) : (tTup s).rep K M v xs := by
  cases h with
  | tup h1 h2 => exact ⟨_, _, rfl, h1, pd_all hf h2⟩
/-- a row of ints, a table of ints as data -/
def dRow (xs : List Int) : PyData := .tuple (xs.map .int)
def dTab (xs : List (List Int)) : PyData := .tuple (xs.map dRow)
def dRowL (xs : List Int) : PyData := .list (xs.map .int)
def dTabL (xs : List (List Int)) : PyData := .list (xs.map dRowL)
theorem dp_row {xs : List Int} (h : (tTup tI).rep K M v xs) : Dp K M v (dRow xs) := dp_T (fun _ _ => dp_I) h
theorem dp_tab {xs : List (List Int)} (h : (tTup (tTup tI)).rep K M v xs) : Dp K M v (dTab xs) := dp_T (fun _ _ => dp_row) h
theorem dp_rowL {xs : List Int} (h : (tLst tI).rep K M v xs) : Dp K M v (dRowL xs) := dp_L (fun _ _ => dp_I) h
theorem dp_tabL {xs : List (List Int)} (h : (tLst (tLst tI)).rep K M v xs) : Dp K M v (dTabL xs) := dp_L (fun _ _ => dp_rowL) h
theorem pd_row {xs : List Int} (h : Dp K M v (dRow xs)) : (tTup tI).rep K M v xs := pd_T (fun _ _ => pd_I) h
theorem pd_tab {xs : List (List Int)} (h : Dp K M v (dTab xs)) : (tTup (tTup tI)).rep K M v xs := pd_T (fun _ _ => pd_row) h
end
/-! ### frozen -/
mutual
def frz : PyData → PyData
  | .list ds => .tuple (frzAll ds)
  | .tuple ds => .tuple (frzAll ds)
  | .none => .none
  | .bool b => .bool b
  | .int i => .int i
  | .str s => .str s
  | .dict kvs => .dict kvs
def frzAll : List PyData → List PyData
  | [] => []
  | d :: ds => frz d :: frzAll ds
end
theorem frzAll_map : ∀ ds : List PyData, frzAll ds = ds.map frz
  | [] => by rw [frzAll]; rfl
  | d :: ds => by rw [frzAll, frzAll_map ds]; rfl
/-- not deeper than n, no list too long -/
def Fit : Nat → PyData → Prop
  | n + 1, .list ds => ds.length ≤ 1000000 ∧ ∀ d ∈ ds, Fit n d
  | n + 1, .tuple ds => ds.length ≤ 1000000 ∧ ∀ d ∈ ds, Fit n d
  | 0, .list _ => False
  | 0, .tuple _ => False
  | _, .dict _ => False
  | _, _ => True
theorem frz_int (i : Int) : frz (.int i) = .int i := by rw [frz]
theorem frz_dRow (xs : List Int) : frz (dRow xs) = dRow xs := by
  unfold dRow; rw [frz, frzAll_map, List.map_map]; congr 1
theorem frz_dRowL (xs : List Int) : frz (dRowL xs) = dRow xs := by
  unfold dRow dRowL; rw [frz, frzAll_map, List.map_map]; congr 1
theorem frz_dTab (xs : List (List Int)) : frz (dTab xs) = dTab xs := by
  unfold dTab; rw [frz, frzAll_map, List.map_map]; congr 1
  exact List.map_congr_left (fun i _ => frz_dRow i)
theorem frz_dTabL (xs : List (List Int)) : frz (dTabL xs) = dTab xs := by
  unfold dTab dTabL; rw [frz, frzAll_map, List.map_map]; congr 1
  exact List.map_congr_left (fun i _ => frz_dRowL i)
theorem fit_row {n : Nat} {xs : List Int} (h : xs.length ≤ 1000000) : Fit (n + 1) (dRow xs) := ⟨by rw [List.length_map]; exact h, fun d hd => by
  obtain ⟨i, _, rfl⟩ := List.mem_map.mp hd
  cases n <;> trivial⟩
theorem fit_rowL {n : Nat} {xs : List Int} (h : xs.length ≤ 1000000) : Fit (n + 1) (dRowL xs) := ⟨by rw [List.length_map]; exact h, fun d hd => by
  obtain ⟨i, _, rfl⟩ := List.mem_map.mp hd
  cases n <;> trivial⟩
theorem fit_tab {n : Nat} {xs : List (List Int)} (h : xs.length ≤ 1000000) (h2 : ∀ x ∈ xs, x.length ≤ 1000000) : Fit (n + 2) (dTab xs) := ⟨by rw [List.length_map]; exact h, fun d hd => by
  obtain ⟨i, hi, rfl⟩ := List.mem_map.mp hd
  exact fit_row (h2 i hi)⟩
theorem fit_tabL {n : Nat} {xs : List (List Int)} (h : xs.length ≤ 1000000) (h2 : ∀ x ∈ xs, x.length ≤ 1000000) : Fit (n + 2) (dTabL xs) := ⟨by rw [List.length_map]; exact h, fun d hd => by
  obtain ⟨i, hi, rfl⟩ := List.mem_map.mp hd
  exact fit_rowL (h2 i hi)⟩
def spFz (K : Fg) (n : Nat) : Sp := spG K (fun d : PyData => [.vl tD d]) (fun d => Fit n d) tD frz
theorem rep_DL {K : Fg} {M : Hp} {v : V} {ds : List PyData} (h : Dp K M v (.list ds)) : ∃ a vs, v = .ref a ∧ SqL K M a vs ∧ Paired (tD.rep K M) vs ds := by
  cases h with
  | lst h1 h2 =>
    refine ⟨_, _, rfl, h1, ?_⟩
    have : ∀ {vs : List V} {ds : List PyData}, DpAll K M vs ds → Paired (tD.rep K M) vs ds := by
      intro vs ds
      induction ds generalizing vs with
      | nil => intro h; cases h; exact .nil
      | cons d ds ih => intro h; cases h with | cons a b => exact .cons a (ih b)
    exact this h2
theorem rep_DT {K : Fg} {M : Hp} {v : V} {ds : List PyData} (h : Dp K M v (.tuple ds)) : (tTup tD).rep K M v ds := by
  cases h with
  | tup h1 h2 =>
    refine ⟨_, _, rfl, h1, ?_⟩
    have : ∀ {vs : List V} {ds : List PyData}, DpAll K M vs ds → Paired (tD.rep K M) vs ds := by
      intro vs ds
      induction ds generalizing vs with
      | nil => intro h; cases h; exact .nil
      | cons d ds ih => intro h; cases h with | cons a b => exact .cons a (ih b)
    exact this h2
theorem dpAll_of {K : Fg} {M : Hp} : ∀ {vs : List V} {ds : List PyData}, Paired (tD.rep K M) vs ds → DpAll K M vs ds
  | _, _, .nil => .nil
  | _, _, .cons h t => .cons h (dpAll_of t)
theorem rep_TD {K : Fg} {M : Hp} {v : V} {ds : List PyData} (h : (tTup tD).rep K M v ds) : Dp K M v (.tuple ds) := by
  obtain ⟨a, vs, rfl, h1, h2⟩ := h
  exact .tup h1 (dpAll_of h2)
/-- no name of the module hides a built-in -/
structure Bi (mg : Str → Option Value) : Prop where
  len : mg "len" = none
  int : mg "int" = none
  min : mg "min" = none
  max : mg "max" = none
  range : mg "range" = none
  list : mg "list" = none
  tuple : mg "tuple" = none
  isinstance : mg "isinstance" = none
  str : mg "str" = none
  bool : mg "bool" = none
  sum : mg "sum" = none
  sorted : mg "sorted" = none
  repr : mg "repr" = none
  iter : mg "iter" = none
  enumerate : mg "enumerate" = none
  zip : mg "zip" = none
  reversed : mg "reversed" = none
  any : mg "any" = none
  all : mg "all" = none
  abs : mg "abs" = none
  set : mg "set" = none
  dict : mg "dict" = none
  ve : mg "ValueError" = none
theorem nt {b : Bool} (h : b = false) : ¬ b = true := by rw [h]; decide
theorem ret_is {α : Type} {s : Ty α} {x y : α} {K : Fg} {M : Hp} {v : V} (r : s.rep K M v x) (h : y = x) : s.rep K M v y := by rw [h]; exact r
end TL

namespace TL
open PySem PySem.Spec PyProof.Rows L2
/-! ### lists of lists of the frame's own -/
def cutv (M : Hp) (fp : List Addr) : Hp := fun b => if b ∈ fp then none else M b
theorem unview {M H M' H' : Hp} {fp : List Addr} (hf : ∀ x ∈ fp, M x = none ∧ ∃ vs, H x = some (.lst vs)) (n : Nx (upds M H fp) H M' H') (K : Fg) : Nx M H (cutv M' fp) H' ∧ TupS K M' (cutv M' fp) := by
  refine ⟨⟨n.ex, fun b o e => ?_, fun b o e => ?_, fun b n1 n2 => ?_⟩, fun b xs e => ?_⟩
  · unfold cutv
    by_cases z : b ∈ fp
    · rw [(hf b z).1] at e; cases e
    · rw [if_neg z]
      exact n.vx b o (by unfold upds; rw [if_neg z]; exact e)
  · unfold cutv at e
    by_cases z : b ∈ fp
    · rw [if_pos z] at e; cases e
    · rw [if_neg z] at e; exact n.sub b o e
  · unfold cutv
    by_cases z : b ∈ fp
    · rw [if_pos z]
    · rw [if_neg z]; exact n.fr b (by unfold upds; rw [if_neg z]; exact n1) n2
  · have at' : ∀ b ∈ fp, ∃ vs, M' b = some (.lst vs) := fun b z => by
      obtain ⟨_, vs, hv⟩ := hf b z
      exact ⟨vs, n.vx b _ (by unfold upds; rw [if_pos z]; exact hv)⟩
    rcases e with e | e
    · have z : b ∉ fp := fun z => by
        obtain ⟨vs, hv⟩ := at' b z
        rcases e with e | ⟨o, e⟩
        · rw [hv] at e; cases e
        · rw [hv] at e; cases e
      refine .inl ?_
      rcases e with e | ⟨o, e⟩
      · exact .inl (by unfold cutv; rw [if_neg z]; exact e)
      · exact .inr ⟨o, by unfold cutv; rw [if_neg z]; exact e⟩
    · exact .inr e
/-- a slot is forgotten, whatever its value -/
theorem St.setAny {K : Fg} {M0 H0 M H : Hp} {σ : L2.St} {G : List Sl} (S : St K M0 H0 M H σ G) (i : Nat) (o : Option V) : St K M0 H0 M H (σ.set i o) (G.set i .un) :=
  S.change (fp := []) S.nx (fun h => by cases h) (fun _ _ _ _ _ _ _ _ r => r) trivial
section
variable {α β γ ι ρ : Type} {X : Cx} {G : List Sl} {a b c e : Expr} {es : List Expr} {st : Stmt} {rest th el body : List Stmt} {s : Ty α} {t : Ty β} {u : Ty γ} {x : α} {y : β} {z : γ} {pos : Pos} {i j : Int} {xs ys : List α} {p q : Bool} {R : Out} {k : Nat} {scope : Scope} {own : List (Str × Nat)} {n : Str} {pn : Pos}
theorem e_read2 (m : Nat) {s : Ty α} {xss : List (List α)} (h : G[m]? = some (.o2 s xss)) (hi : Imm X.K t) (he : E X (G.set m (.vl (tLst (tLst s)) xss)) e t y) : E X G e t y := ⟨fun {M0 H0 M H σ} S Q q => by
  obtain ⟨fp, hf, S'⟩ := S.freeze2 h
  refine he.run S' _ fun v M' H' n r => ?_
  obtain ⟨n', ts⟩ := unview (fun x hx => ⟨(hf x hx).1, (hf x hx).2.2⟩) n X.K
  exact q v _ H' n' (hi _ _ _ _ ts r)⟩
theorem t_read2 (m : Nat) {s : Ty α} {xss : List (List α)} {d : Bool} (h : G[m]? = some (.o2 s xss)) (he : T X (G.set m (.vl (tLst (tLst s)) xss)) e d) : T X G e d := ⟨fun {M0 H0 M H σ} S Q q => by
  obtain ⟨fp, hf, S'⟩ := S.freeze2 h
  refine he.run S' _ fun M' H' n => ?_
  obtain ⟨n', ts⟩ := unview (fun x hx => ⟨(hf x hx).1, (hf x hx).2.2⟩) n X.K
  exact q _ H' n'⟩
theorem b_freeze2 (m : Nat) {s : Ty α} {xss : List (List α)} (h : G[m]? = some (.o2 s xss)) (hb : B X (G.set m (.vl (tLst (tLst s)) xss)) rest R) : B X G rest R := ⟨fun D E S tk f => by
  obtain ⟨fp, _, S'⟩ := S.freeze2 h
  exact hb.run D E S' tk f⟩
theorem nodup_set : ∀ {bs : List Addr} (l : Nat) {p : Addr}, bs.Nodup → p ∉ bs → (bs.set l p).Nodup ∧ ∀ x ∈ bs.set l p, x = p ∨ x ∈ bs
  | [], _, _, h, _ => ⟨by simp, fun x hx => by simp at hx⟩
  | b :: bs, 0, p, h, hp => by
    rw [List.set_cons_zero]
    refine ⟨List.nodup_cons.mpr ⟨fun z => hp (by simp [z]), (List.nodup_cons.mp h).2⟩, fun x hx => ?_⟩
    rcases List.mem_cons.mp hx with z | z
    · exact .inl z
    · exact .inr (by simp [z])
  | b :: bs, l + 1, p, h, hp => by
    rw [List.set_cons_succ]
    obtain ⟨h1, h2⟩ := nodup_set (bs := bs) l (List.nodup_cons.mp h).2 (fun z => hp (List.mem_cons_of_mem _ z))
    refine ⟨List.nodup_cons.mpr ⟨fun z => ?_, h1⟩, fun x hx => ?_⟩
    · rcases h2 b z with z | z
      · exact hp (by rw [z]; simp)
      · exact (List.nodup_cons.mp h).1 z
    · rcases List.mem_cons.mp hx with z | z
      · exact .inr (by simp [z])
      · rcases h2 x z with z | z
        · exact .inl z
        · exact .inr (by simp [z])
/-- name[ib] = [..] -/
theorem s_set2 (m : Nat) {n : Str} {p1 : Pos} {ib : Expr} {l : Nat} {xss : List (List α)} {xs : List α} (h0 : G[m]? = some (.o2 s xss)) (he : EL X G e s xs) (hib : E X G ib tI i) (hm : ixN xss.length i = some l) (h : R.nx (G.set m (.o2 s (xss.set l xs)))) (hi : X.N[m]? = some n := by rfl)
    (hv : Vis X.env.scope n := by first | exact Or.inl rfl | exact Or.inr (Or.inl rfl) | exact Or.inr (Or.inr rfl))
    (hd : (n == ("__debug__" : Str)) = false := by decide) (hcd : (n == ("__classdict__" : Str)) = false := by decide) {p2 : Pos}
    (ha : ∀ v, assign (.Subscript (.Name n p1) ib p2) X.env v = (do
      let ov ← holding [v] (eval (.Name n p1) X.env)
      let iv ← holding [v, ov] (eval ib X.env)
      standAt p2
      holding [v, ov, iv] (setItem ov iv v)
      release [v, ov, iv] []) := by intro _; rfl)
    (hs : swapsWithSole [.Subscript (.Name n p1) ib p2] e pos.line X.env = pure false := by rfl) (hw : swappedStores [.Subscript (.Name n p1) ib p2] e X.env = pure none := by rfl)
    (h1 : (assignEach [.Subscript (.Name n p1) ib p2] X.env).map (·.2) = [assign (.Subscript (.Name n p1) ib p2) X.env] := by rfl) :
    S1 X G (.Assign [.Subscript (.Name n p1) ib p2] e pos) R := ⟨fun {M0 H0 M H σ} D E S tk f => by
  refine ⟨_, ps_asg pe_w (pg_sub (pe_var hi hv hd hcd) pe_w set_list ha) hs hw h1, ?_⟩
  refine he.run S _ fun p M1 H1 vs n1 hp mp hh r1 => ?_
  have key : ∀ M2 H2, Nx M1 H1 M2 H2 → ∃ (a : Addr) (bs : List Addr), σ[m]? = some (some (.ref a)) ∧ H2 a = some (.lst (bs.map V.ref)) ∧ bs.length = xss.length ∧ St X.K M0 H0 M2 (upd H2 a (.lst ((bs.set l p).map V.ref))) σ (G.set m (.o2 s (xss.set l xs))) := fun M2 H2 n2 =>
    S.new2 (cs := fun bs => bs.set l p) (yss := xss.set l xs) h0 (n1.trans n2) hp (n2.fr p mp (by rw [hh]; simp)) (n2.ex _ _ hh) (paired_imp (fun _ _ q => s.ext n2.vx q) r1) (fun bs _ nd pb => nodup_set l nd pb) (fun f1 pr => paired_set f1 l pr)
  obtain ⟨a0, bs0, e0, _⟩ := key M1 H1 (Nx.refl n1.sub)
  refine ⟨.ref a0, e0, hib.run (S.next n1) _ fun w M2 H2 n2 r2 => ?_⟩
  obtain ⟨a, bs, e1, hh2, hl, S'⟩ := key M2 H2 n2
  rw [e0] at e1; cases e1
  refine ⟨a0, _, i, l, rfl, r2, hh2, by rw [List.length_map, hl]; exact hm, ?_⟩
  rw [List.map_set] at S'
  exact f.nx S' h⟩
/-- line = name[i]; line[j] = e: an item of an item is exchanged -/
theorem b_alias (m m2 : Nat) {n n2 : Str} {q1 q2 q3 q4 q5 ps1 ps2 : Pos} {ib jb : Expr} {l r : Nat} {i j : Int} {xss : List (List α)} {xs : List α} (h0 : G[m]? = some (.o2 s xss)) (hne : m ≠ m2) (hib : E X G ib tI i) (hl : ixN xss.length i = some l) (hxs : xss[l]? = some xs)
    (he : E X ((G.set m (.vl (tLst (tLst s)) xss)).set m2 (.vl (tLst s) xs)) e s x) (hei : Imm X.K s) (hjb : E X (G.set m2 .un) jb tI j) (hr : ixN xs.length j = some r) (h : B X ((G.set m (.o2 s (xss.set l (xs.set r x)))).set m2 .un) rest R) (hml : (G[m2]?).isSome = true := by rfl)
    (hN : X.N.Nodup) (hi : X.N[m]? = some n := by rfl) (hi2 : X.N[m2]? = some n2 := by rfl) (hx2 : Loc X.env.scope n2 := by first | exact Or.inl rfl | exact Or.inr rfl) (hf2 : X.fn n2 = true ∨ X.env.scope.names.lookup n2 = some .local := by first | exact .inl rfl | exact .inr rfl)
    (hv : Vis X.env.scope n := by first | exact Or.inl rfl | exact Or.inr (Or.inl rfl) | exact Or.inr (Or.inr rfl)) (hv2 : Vis X.env.scope n2 := by first | exact Or.inl rfl | exact Or.inr (Or.inl rfl) | exact Or.inr (Or.inr rfl))
    (hd : (n == ("__debug__" : Str)) = false := by decide) (hcd : (n == ("__classdict__" : Str)) = false := by decide) (hd2 : (n2 == ("__debug__" : Str)) = false := by decide) (hcd2 : (n2 == ("__classdict__" : Str)) = false := by decide)
    (hsl : PlainIx ib := by exact fun _ _ => rfl) (hs1 : swapsWith (.Subscript (.Name n q1) ib q2) (some (.Name n2 q3)) ps1.line X.env = pure false := by rfl)
    (ha : ∀ v, assign (.Subscript (.Name n2 q4) jb q5) X.env v = (do
      let ov ← holding [v] (eval (.Name n2 q4) X.env)
      let iv ← holding [v, ov] (eval jb X.env)
      standAt q5
      holding [v, ov, iv] (setItem ov iv v)
      release [v, ov, iv] []) := by intro _; rfl)
    (hs : swapsWithSole [.Subscript (.Name n2 q4) jb q5] e ps2.line X.env = pure false := by rfl) (hw : swappedStores [.Subscript (.Name n2 q4) jb q5] e X.env = pure none := by rfl)
    (h1 : (assignEach [.Subscript (.Name n2 q4) jb q5] X.env).map (·.2) = [assign (.Subscript (.Name n2 q4) jb q5) X.env] := by rfl) :
    B X G (.Assign [.Name n2 q3] (.Subscript (.Name n q1) ib q2) ps1 :: .Assign [.Subscript (.Name n2 q4) jb q5] e ps2 :: rest) R := ⟨fun {M0 H0 M H σ} D E S tk f => by
  refine ⟨_, pss_cons (ps_set hN hi2 hx2 (pe_ix ix_list (pe_var hi hv hd hcd) pe_w hsl) hs1 hf2) (pss_cons (ps_asg pe_w (pg_sub (pe_var hi2 hv2 hd2 hcd2) pe_w set_list ha) hs hw h1) pss_w), ?_⟩
  obtain ⟨a0, bs0, b0, vs0, e0, _⟩ := S.put2 (ys := xs) h0 hxs
  refine ⟨.ref a0, e0, hib.run S _ fun w M1 H1 n1 r1 => ?_⟩
  obtain ⟨a, bs, b, vs, e1, ha1, hbl, hb1, hb, hbm, pr, _⟩ := (S.next n1).put2 (ys := xs) h0 hxs
  rw [e0] at e1; cases e1
  have hat : atI (bs.map V.ref) i = some (.ref b) := by
    unfold atI
    rw [List.length_map, hbl, hl]
    show (bs.map V.ref)[l]? = _
    rw [List.getElem?_map, hb1]; rfl
  refine ⟨a0, _, i, .ref b, rfl, r1, SqL.of ha1, hat, ?_⟩
  -- e is read while all is frozen
  have S1 := S.next n1
  obtain ⟨fp, hf, Sf⟩ := S1.freeze2 h0
  obtain ⟨vt, evt, ta, tvs, te1, te2, te3⟩ := Sf.get (t := tLst (tLst s)) (x := xss) (i := m) (by rw [List.getElem?_set_self (List.getElem?_eq_some_iff.mp h0).1])
  rw [e0] at evt; cases evt
  cases te1
  have tvs' : tvs = bs.map V.ref := by
    have := Sf.sub _ _ te2
    rw [ha1] at this; injection this with this; injection this with this; exact this.symm
  subst tvs'
  obtain ⟨vb, evb, rb⟩ := paired_get te3 hxs
  rw [List.getElem?_map, hb1] at evb
  cases evb
  refine he.run (Sf.set (s := .vl (tLst s) xs) (i := m2) (v := .ref b) rb) _ fun v M2 H2 n2 r2 => ?_
  obtain ⟨n2', ts⟩ := unview (fun x hx => ⟨(hf x hx).1, (hf x hx).2.2⟩) n2 X.K
  have r2' := hei _ _ _ _ ts r2
  have m2l : m2 < σ.length := by
    rw [S.len]
    exact (List.getElem?_eq_some_iff.mp (Option.isSome_iff_exists.mp hml).choose_spec).1
  have S2 := (S1.next n2').setAny m2 (some (.ref b))
  refine ⟨.ref b, List.getElem?_set_self m2l, hjb.run S2 _ fun w3 M3 H3 n3 r3 => ?_⟩
  obtain ⟨a3, bs3, b3, vs3, e3, ha3, hbl3, hb3, hv3, hm3, pr3, S3⟩ := (S1.next (n2'.trans n3)).put2 (ys := xs.set r x) h0 hxs
  rw [e0] at e3; cases e3
  have ebs : bs = bs3 := by
    have q1 := (n2'.ex.trans n3.ex) _ _ ha1
    rw [ha3] at q1
    injection q1 with q1; injection q1 with q1
    exact (refs_inj q1).symm
  subst ebs
  rw [hb1] at hb3; cases hb3
  have S4 := (S3 (vs3.set r v) (paired_set (s.ext n3.vx r2') r pr3)).setAny m2 (some (.ref b))
  exact ⟨b, vs3, j, r, rfl, r3, hv3, by rw [pr3.length]; exact hr, h.run D E S4 tk f⟩⟩
/-- behind m turns: the list at D holds new lists -/
def LcI2 (K : Fg) (t : Ty β) (M1 H1 : Hp) (D : Addr) (yss : List (List β)) (H : Hp) : Prop := ∃ (M : Hp) (bs : List Addr), Nx M1 H1 M H ∧ M D = none ∧ H D = some (.lst (bs.map V.ref)) ∧ D ∉ bs ∧ bs.Nodup ∧ (∀ x ∈ bs, H1 x = none) ∧ Paired (fun b ys => M b = none ∧ ∃ vs, H b = some (.lst vs) ∧ Paired (t.rep K M) vs ys) bs yss
theorem paired_mem {α β : Type} {F G : α → β → Prop} : ∀ {l₁ : List α} {l₂ : List β}, Paired F l₁ l₂ → (∀ a b, a ∈ l₁ → F a b → G a b) → Paired G l₁ l₂
  | _, _, .nil, _ => .nil
  | _, _, .cons h t, f => .cons (f _ _ (by simp) h) (paired_mem t fun a b ha => f a b (by simp [ha]))
theorem lcI2_turn {X X' : Cx} {G : List Sl} {e : Expr} {t : Ty β} {ys : List β} {M0 H0 M1 H1 H : Hp} {D : Addr} {yss : List (List β)} {σ : L2.St} (hK : X'.K = X.K) (hD : H1 D = none) (hI : LcI2 X.K t M1 H1 D yss H) (hz : yss.length < 1000000)
    (S : ∀ M, Nx M1 H1 M H → St X'.K M0 H0 M H σ G) (he : EL X' G e t ys) : wE X' e σ H fun v H4 => ∃ acc, H4 D = some (.lst acc) ∧ acc.length < sizeLine ∧ LcI2 X.K t M1 H1 D (yss ++ [ys]) (upd H4 D (.lst (acc ++ [v]))) := by
  obtain ⟨M, bs, n, hm, hh, hDb, nd, hf, pr⟩ := hI
  refine he.run (S M n) _ fun p M' H' vs n' hp mp hv r => ?_
  have h4 := n'.ex _ _ hh
  have mD : M' D = none := n'.fr D hm (by rw [hh]; simp)
  have nn := n.trans n'
  have pD : p ≠ D := fun z => by rw [z, hh] at hp; cases hp
  have pb : p ∉ bs := fun z => by
    obtain ⟨k, hk⟩ := List.getElem?_of_mem z
    obtain ⟨_, _, _, us, hu, _⟩ := paired_get' pr hk
    rw [hp] at hu; cases hu
  refine ⟨bs.map V.ref, h4, by rw [List.length_map, pr.length]; exact Nat.lt_of_lt_of_le hz (by decide), M', bs ++ [p], ⟨fun b o q => ?_, nn.vx, fun b o q => ?_, nn.fr⟩, mD, ?_, ?_, ?_, ?_, paired_app ?_ (.cons ⟨mp, vs, by rw [upd_ne pD]; exact hv, by rw [← hK]; exact r⟩ .nil)⟩
  · rw [upd_ne (ne_of_none q hD)]; exact nn.ex b o q
  · rw [upd_ne (ne_of_none q mD)]; exact nn.sub b o q
  · rw [upd_same, List.map_append]; rfl
  · intro z
    rcases List.mem_append.mp z with z | z
    · exact hDb z
    · exact pD (List.mem_singleton.mp z).symm
  · refine List.nodup_append.mpr ⟨nd, by simp, fun x hx y hy z => pb ?_⟩
    rw [← List.mem_singleton.mp hy, ← z]; exact hx
  · intro x hx
    rcases List.mem_append.mp hx with z | z
    · exact hf x z
    · rw [List.mem_singleton.mp z]; exact n.ex.free hp
  · refine paired_mem pr fun b xs hb ⟨q1, us, q2, q3⟩ => ⟨n'.fr b q1 (by rw [q2]; simp), us, ?_, paired_imp (fun _ _ q => t.ext n'.vx q) q3⟩
    rw [upd_ne (fun z => hDb (by rw [← z]; exact hb))]; exact n'.ex _ _ q2
theorem lcI2_start {K : Fg} {t : Ty β} {M1 H1 : Hp} {D : Addr} (m : Same M1 H1) (hD : H1 D = none) : LcI2 K t M1 H1 D [] (upd H1 D (.lst [])) :=
  ⟨M1, [], nx_lay m hD, same_none m hD, upd_same, by simp, by simp, by simp, .nil⟩
/-- name = [new list for x in tuple] -/
theorem s_lc2T {f : α → List β} {xs : List α} {nm : Str} {py pos' : Pos} (k i : Nat) (he : E X G a (tTup s) xs)
    (hel : ∀ (s0 : Shared) (H : Hp) (C : Addr) (cl : List (Str × Addr)) (fp : List Addr) (m : Nat) (x : α), xs[m]? = some x → EL (X.blk s0 H scope (compEnvC scope cl C X.env) fp) ((wipeG G (own.map (·.2))).set i (.vl s x)) e t (f x))
    (ok : BlkOk X.N X.env.scope scope own) (hz : xs.length ≤ 1000000)
    (hg : ∀ (s0 : Shared) (H : Hp) (C : Addr) (cl : List (Str × Addr)) (fp : List Addr), PG (X.blk s0 H scope (compEnvC scope cl C X.env) fp) (.Name n pn) (gName i)) (hnx : R.nx (G.set k (.o2 t (xs.map f)))) (hcm : X.calm = true) (hN : X.N.Nodup) (hio : i ∈ own.map (·.2) := by decide) (hi : X.N[k]? = some nm := by rfl)
    (hy : X.env.scope.names.lookup nm = some .local := by rfl) (hsw : swapsWith (.ListComp e [⟨.Name n pn, a, [], 0⟩] scope pos) (some (.Name nm py)) pos'.line X.env = pure true := by first | exact sw_true rfl rfl rfl (by decide +kernel) | rfl)
    (hs : ∀ x, foldedSetIterable a X.env x = pure x := by intro _; rfl) : S1 X G (.Assign [.Name nm py] (.ListComp e [⟨.Name n pn, a, [], 0⟩] scope pos) pos') R := ⟨fun {M0 H0 M H σ} D0 E S tk ff => by
  refine ⟨_, ps_setLc hcm hN hi hy hsw (pi_tup pe_w) ok hg (fun _ _ _ _ _ => pts_nil) (te := wBlk X scope e) (fun s0 H C cl fp => pe_blk s0 H C cl fp) hs, ?_⟩
  refine he.run S _ fun v M1 H1 n1 r1 => ?_
  obtain ⟨p, vs, e1, e2, e3⟩ := r1
  refine ⟨p, e1, ⟨vs, sqT_ext n1.sub e2⟩, fun D hD => lc_tup (K := X.K) (a := p) (xs := vs) (fun m H' => LcI2 X.K t M1 H1 D ((xs.take m).map f) H') (lcI2_start n1.sub hD) (fun m H' _ ⟨M', _, n', _⟩ => sqT_ext (n'.vx.trans n'.sub) e2) ?_ ?_⟩
  · intro m w H' hm hI
    obtain ⟨x', g1, g2⟩ := paired_get' e3 hm
    refine ⟨wiped hio, fun s0 H2 C cl fp => ?_⟩
    rw [take_snoc g1, List.map_append]
    have hl : ((xs.take m).map f).length < 1000000 := by
      have := (List.getElem?_eq_some_iff.mp g1).1
      rw [List.length_map, List.length_take]; omega
    exact lcI2_turn (X := X) rfl hD hI hl (fun M' n' => St.block (S.next n1) n' _ i g2) (hel s0 H2 C cl fp m x' g1)
  · rintro H' ⟨M', bs, n', mD, hh, hDb, nd, hf, pr⟩
    rw [e3.length, List.take_length] at pr
    exact ff.nx (S.setOwn2 (n1.trans n') (n1.ex.free hD) mD hh (fun x hx => n1.ex.free (hf x hx)) hDb nd pr) hnx⟩
end
end TL

namespace TL
open PySem PySem.Spec PyProof.Rows L2
theorem repsExt {K : Fg} {M M' : Hp} (e : Same M M') : ∀ {vs : List V} {ss : List Sl}, Reps K M vs ss → Reps K M' vs ss
  | _, _, .nil => .nil
  | _, _, .cons (t := t) h r => .cons (t.ext e h) (repsExt e r)
theorem repsApp {K : Fg} {M : Hp} : ∀ {vs ws : List V} {ss ts : List Sl}, Reps K M vs ss → Reps K M ws ts → Reps K M (vs ++ ws) (ss ++ ts)
  | _, _, _, _, .nil, r => r
  | _, _, _, _, .cons h r, q => .cons h (repsApp r q)
theorem paired_nil_r {α β : Type} {F : α → β → Prop} {xs : List α} (h : Paired F xs []) : xs = [] := List.eq_nil_of_length_eq_zero h.length
section
variable {α β γ ι ρ : Type} {X : Cx} {G : List Sl} {a b c e : Expr} {es rest : List Expr} {s : Ty α} {t : Ty β} {u : Ty γ} {x : α} {y : β} {z : γ} {pos : Pos} {k : Nat}
/-- t + u, of any length -/
theorem e_catA {xs ys : List α} (ha : E X G a (tTup s) xs) (hb : E X G b (tTup s) ys) (hz : xs.length + ys.length ≤ 1000000) : E X G (.BinOp a .Add b pos) (tTup s) (xs ++ ys) := e_op2 op_catA ha hb fun M H v w Q m h1 h2 k => by
  obtain ⟨p, vs, e1, e2, e3⟩ := h1
  obtain ⟨q, ws, f1, f2, f3⟩ := h2
  have l1 := e3.length
  have l2 := f3.length
  refine ⟨p, q, vs, ws, e1, f1, sqT_ext m e2, sqT_ext m f2, by rw [l1, l2]; exact Nat.le_trans hz (by decide), fun z => ?_, fun _ z => ?_, fun _ _ r hr => ?_⟩
  · have : xs = [] := by rw [z] at l1; exact List.eq_nil_of_length_eq_zero l1.symm
    rw [this, List.nil_append] at k
    exact k _ M H (Nx.refl m) ⟨q, ws, rfl, f2, f3⟩
  · have : ys = [] := by rw [z] at l2; exact List.eq_nil_of_length_eq_zero l2.symm
    rw [this, List.append_nil] at k
    exact k _ M H (Nx.refl m) ⟨p, vs, rfl, e2, e3⟩
  · exact k _ _ _ (Nx.new m hr) ⟨r, _, rfl, .inl (.inl upd_same), paired_imp (fun _ _ q => s.ext (same_new (same_none m hr)) q) (paired_app e3 f3)⟩
/-! ### keyword-only parameters -/
def wK (X : Cx) (kws : List Keyword) : TA := fun σ H Q => ∃ t, PK X kws t ∧ t σ H Q
theorem pk_w {X : Cx} {kws : List Keyword} : PK X kws (wK X kws) := ⟨fun pos pins s σ H Q I ⟨_, p, h⟩ => p.run pos pins s σ H Q I h⟩
structure EK (X : Cx) (G : List Sl) (es : List Keyword) (ss : List Sl) : Prop where
  run : ∀ {M0 H0 M H : Hp} {σ : L2.St}, St X.K M0 H0 M H σ G → ∀ (Q : List V → Hp → Prop), (∀ vs M' H', Nx M H M' H' → Reps X.K M' vs ss → Q vs H') → wK X es σ H Q
theorem ek_nil : EK X G [] [] := ⟨fun S Q k => ⟨_, pk_nil, k _ _ _ (Nx.refl S.sub) .nil⟩⟩
theorem ek_cons {kws : List Keyword} {ss : List Sl} {nm : Option Str} {kp : Pos} (h : E X G a s x) (hr : EK X G kws ss) : EK X G (⟨nm, a, kp⟩ :: kws) (.vl s x :: ss) := ⟨fun S Q k =>
  ⟨_, pk_cons pe_w pk_w, h.run S _ fun v M1 H1 n1 r1 => hr.run (S.next n1) _ fun vs M2 H2 n2 r2 => k _ M2 H2 (n1.trans n2) (.cons (s.ext n2.vx r1) r2)⟩⟩
/-- a def with keyword-only parameters, as its callers know it -/
structure FnD (P : Program) (w : World) (K : Fg) (mg : Str → Option Value) (base : Heap) (CX : CXT) (k : Nat) (name : Str) (ps : List Str) (n : Nat) (ks : List Str) (dvs : List V) (sp : Sp) : Prop where
  ex : ∃ f fd, mg name = some (.ref f) ∧ PySem.W.keepIn K (.ref f) = true ∧ (∃ ds, Vals dvs ds ∧ Binds K fd ps ds) ∧ KBn K fd ps n ks (fun us ws => us ++ ws) (fun vs zs => vs ++ zs) ∧ FnOk P w K mg base CX k f fd ps sp
theorem e_callD {P : Program} {w : World} {K : Fg} {mg : Str → Option Value} {base : Heap} {n : Str} {ps ks : List Str} {nn : Nat} {dvs : List V} {ar : ι → List Sl} {pre : ι → Prop} {tr : Ty ρ} {out : ι → ρ} {p : Pos} {as ds : List Sl} (C : FnD P w K mg base CX0 k n ps nn ks dvs (spG K ar pre tr out)) (hr : Room k X.A) (i : ι) (ha : EA X G (e :: es) as) (hd : ∀ M, Reps K M dvs ds) (har : ar i = as ++ ds) (hp : pre i)
    (hg : Gl X n := by rfl) (hdb : (n == ("__debug__" : Str)) = false := by decide) (he : starEach (e :: es) X.env = (false, eval e X.env) :: starEach es X.env := by rfl) (hpl : (backTo pos (starEach es X.env)).any (·.1) = false := by rfl)
    (xP : X.prog = P := by rfl) (xw : X.w = w := by rfl) (xK : X.K = K := by rfl) (xm : X.mg = mg := by rfl) (xb : X.base = base := by rfl) : E X G (.Call (.Name n p) (e :: es) [] pos) tr (out i) := ⟨fun S Q q => by
  subst xP xw xK xm xb
  obtain ⟨f, fd, hm, hk, ⟨dz, hv, hb⟩, _, F⟩ := C.ex
  refine ⟨_, pe_call F hr hg hm hk hb hv pass0 pa_w hdb he hpl, ha.run S _ fun vs M1 H1 n1 r1 => ?_⟩
  exact ⟨i, M1, n1.sub, by rw [har]; exact repsApp r1 (hd M1), hp, fun v M2 H2 n2 r2 => q v M2 H2 (n1.trans n2) r2⟩⟩
theorem e_callK {P : Program} {w : World} {K : Fg} {mg : Str → Option Value} {base : Heap} {n : Str} {ps ks : List Str} {nn : Nat} {dvs : List V} {ar : ι → List Sl} {pre : ι → Prop} {tr : Ty ρ} {out : ι → ρ} {p : Pos} {as bs : List Sl} {kws : List Keyword} (C : FnD P w K mg base CX0 k n ps nn ks dvs (spG K ar pre tr out)) (hr : Room k X.A) (i : ι) (ha : EA X G (e :: es) as) (hkw : EK X G kws bs) (har : ar i = as ++ bs) (l1 : as.length = nn) (l2 : bs.length = ks.length) (hp : pre i)
    (hg : Gl X n := by rfl) (hall : (backToKw pos (keywordEach kws X.env)).all (·.1.isSome) = true := by rfl) (hks : (backToKw pos (keywordEach kws X.env)).filterMap (·.1) = ks := by rfl)
    (hdb : (n == ("__debug__" : Str)) = false := by decide) (he : starEach (e :: es) X.env = (false, eval e X.env) :: starEach es X.env := by rfl)
    (hpl : ((backTo pos (starEach (e :: es) X.env)).any (·.1) || (backToKw pos (keywordEach kws X.env)).any (·.1.isNone)) = false := by rfl)
    (xP : X.prog = P := by rfl) (xw : X.w = w := by rfl) (xK : X.K = K := by rfl) (xm : X.mg = mg := by rfl) (xb : X.base = base := by rfl) : E X G (.Call (.Name n p) (e :: es) kws pos) tr (out i) := ⟨fun S Q q => by
  subst xP xw xK xm xb
  obtain ⟨f, fd, hm, hk, _, hb, F⟩ := C.ex
  refine ⟨_, pe_callN F hr hg hm hk hb pass0 pa_w pk_w hall hks hdb he hpl, ha.run S _ fun vs M1 H1 n1 r1 => hkw.run (S.next n1) _ fun zs M2 H2 n2 r2 => ?_⟩
  exact ⟨by rw [reps_len r1, l1], by rw [reps_len r2, l2], i, M2, n2.sub, by rw [har]; exact repsApp (repsExt n2.vx r1) r2, hp, fun v M3 H3 n3 r3 => q v M3 H3 ((n1.trans n2).trans n3) r3⟩⟩
end
/-! ### [e for a, b in xs] -/
theorem wipe_get : ∀ (us : List Nat) (τ : L2.St) (j : Nat), (L2.wipe τ us)[j]? = if j ∈ us then (if j < τ.length then some none else none) else τ[j]? := by
  intro us
  induction us with
  | nil => intro τ j; simp [L2.wipe]
  | cons u us ih =>
    intro τ j
    show ((L2.wipe τ us).set u none)[j]? = _
    by_cases hj : u = j
    · subst hj
      rw [List.getElem?_set]
      simp [wipe_length]
    · rw [List.getElem?_set_ne hj, ih τ j]
      have : (j ∈ u :: us) ↔ j ∈ us := by simp [Ne.symm hj]
      simp [this]
theorem wipe_set {σ : L2.St} {o : Option V} {i : Nat} {vs : List Nat} (hi : i ∈ vs) : L2.wipe (σ.set i o) vs = L2.wipe σ vs := by
  apply List.ext_getElem?
  intro j
  rw [wipe_get, wipe_get]
  by_cases hj : j ∈ vs
  · rw [if_pos hj, if_pos hj, List.length_set]
  · rw [if_neg hj, if_neg hj, List.getElem?_set_ne (fun z => hj (by rw [← z]; exact hi))]
section
variable {α β γ : Type} {X : Cx} {G : List Sl} {a e : Expr} {s : Ty α} {t : Ty β} {u : Ty γ} {scope : Scope} {own : List (Str × Nat)}
theorem lc_L2 {n1 n2 : Str} {q1 q2 q3 : Pos} {kt : Nat} {f : α × β → γ} {zs : List (α × β)} (he : E X G a (tLst (tP2 s t)) zs) (i j : Nat)
    (hel : ∀ (s0 : Shared) (H : Hp) (C : Addr) (cl : List (Str × Addr)) (fp : List Addr) (m : Nat) (x : α) (y : β), zs[m]? = some (x, y) → E (X.blk s0 H scope (compEnvC scope cl C X.env) fp) (((wipeG G (own.map (·.2))).set i (.vl s x)).set j (.vl t y)) e u (f (x, y)))
    (ok : BlkOk X.N X.env.scope scope own) (hz : zs.length ≤ 1000000) (hcm : X.calm = true)
    (hg1 : ∀ (s0 : Shared) (H : Hp) (C : Addr) (cl : List (Str × Addr)) (fp : List Addr), PG (X.blk s0 H scope (compEnvC scope cl C X.env) fp) (.Name n1 q1) (gName i))
    (hg2 : ∀ (s0 : Shared) (H : Hp) (C : Addr) (cl : List (Str × Addr)) (fp : List Addr), PG (X.blk s0 H scope (compEnvC scope cl C X.env) fp) (.Name n2 q2) (gName j)) (hio : i ∈ own.map (·.2) := by decide) (hjo : j ∈ own.map (·.2) := by decide)
    (hs : ∀ x, foldedSetIterable a X.env x = pure x := by intro _; rfl) : LC X G e (.Tuple [.Name n1 q1, .Name n2 q2] kt q3) a [] scope u (zs.map f) := ⟨_, gTup X.K 2 (gCons (gName i) (gCons (gName j) gNil)), _, wBlk X scope e, own, (pi_list pe_w), ok, (fun s0 H C cl fp => pg_tup (X := X.blk s0 H scope (compEnvC scope cl C X.env) fp) hcm (pgs_cons (hg1 s0 H C cl fp) (pgs_cons (hg2 s0 H C cl fp) pgs_nil rfl) rfl) rfl rfl), (fun _ _ _ _ _ => pts_nil), (fun s0 H C cl fp => pe_blk s0 H C cl fp), hs, fun {M0 H0 M H σ} S Q q => by
  refine he.run S _ fun v M1 H1 n1 r1 => ?_
  obtain ⟨p, vs, e1, e2, e3⟩ := r1
  refine ⟨p, e1, ⟨vs, SqL.of (n1.sub _ _ e2)⟩, fun D hD => lc_list (K := X.K) (a := p) (xs := vs) (fun m H' => LcI X.K u M1 H1 D ((zs.take m).map f) H') (lcI_start n1.sub hD) (fun m H' _ ⟨M', _, n', _⟩ => SqL.of (n'.sub _ _ (n'.vx _ _ e2))) ?_ ?_⟩
  · intro m w H' hm hI
    obtain ⟨⟨x', y'⟩, g1, g2⟩ := paired_get' e3 hm
    obtain ⟨pa, v1, v2, f1, f2, f3, f4⟩ := g2
    obtain ⟨M', ws, n', mD, hh, pr⟩ := id hI
    refine ⟨pa, [v1, v2], f1, sqT_ext (n'.vx.trans n'.sub) f2, rfl, v1, [v2], rfl, v2, [], rfl, rfl, ?_⟩
    refine ⟨?_, fun s0 H2 C cl fp => ?_⟩
    · rw [wipe_set hjo, wipe_set hio]
      exact List.ext_getElem? fun l => by
        rw [wipe_get, wipe_get]
        by_cases hl : l ∈ own.map (·.2)
        · rw [if_pos hl, if_pos hl, wipe_length]
        · rw [if_neg hl, if_neg hl]
    · rw [take_snoc g1, List.map_append]
      have hl : ((zs.take m).map f).length < 1000000 := by
        have := (List.getElem?_eq_some_iff.mp g1).1
        rw [List.length_map, List.length_take]; omega
      exact lcI_turn (X := X) rfl hD hI hl (fun M' n' => (St.block (S.next n1) n' _ i f3).set (s := .vl t y') (v := v2) (t.ext n'.vx f4)) (hel s0 H2 C cl fp m x' y' g1)
  · rintro H' ⟨M', ws, n', mD, hh, pr⟩
    rw [e3.length, List.take_length] at pr
    exact q D M' H' ws (n1.trans n') (n1.ex.free hD) mD hh pr⟩
end
end TL


namespace TL
open PySem PySem.Spec PyProof.Rows L2
theorem layInts : ∀ ns : List Int, PyData.canLayAll0 (ns.map PyData.int) = true
  | [] => by rw [List.map_nil, PyData.canLayAll0]
  | n :: ns => by rw [List.map_cons, PyData.canLayAll0, layInts ns, PyData.canLay0]; rfl
theorem depInts : ∀ ns : List Int, PyData.depthAll (ns.map PyData.int) = 0
  | [] => by rw [List.map_nil, PyData.depthAll]
  | n :: ns => by rw [List.map_cons, PyData.depthAll, depInts ns, PyData.depth]; rfl
theorem eqvInts : ∀ ns ms : List Int, PyData.eqvAll (ns.map PyData.int) (ms.map PyData.int) = decide (ns = ms)
  | [], [] => by simp [PyData.eqvAll]
  | [], m :: ms => by simp [PyData.eqvAll]
  | n :: ns, [] => by simp [PyData.eqvAll]
  | n :: ns, m :: ms => by
    rw [List.map_cons, List.map_cons, PyData.eqvAll, eqvInts ns ms]
    by_cases h : n = m <;> simp [PyData.eqv, h]
theorem sh_row (ns : List Int) : SeqAt.shaped (dRow ns) = true := by
  unfold dRow SeqAt.shaped; rw [PyData.canLay0, PyData.depth, layInts, depInts]; rfl
theorem sh_rowL (ns : List Int) : SeqAt.shaped (dRowL ns) = true := by
  unfold dRowL SeqAt.shaped; rw [PyData.canLay0, PyData.depth, layInts, depInts]; rfl
theorem eqv_row (a b : List Int) : PyData.eqv (dRow a) (dRow b) = decide (a = b) := by
  unfold dRow; rw [PyData.eqv, eqvInts]
theorem eqv_rowL (a b : List Int) : PyData.eqv (dRowL a) (dRowL b) = decide (a = b) := by
  unfold dRowL; rw [PyData.eqv, eqvInts]
theorem layRows : ∀ ns : List (List Int), PyData.canLayAll0 (ns.map dRow) = true
  | [] => by rw [List.map_nil, PyData.canLayAll0]
  | n :: ns => by rw [List.map_cons, PyData.canLayAll0, layRows ns]; unfold dRow; rw [PyData.canLay0, layInts]; rfl
theorem layRowsL : ∀ ns : List (List Int), PyData.canLayAll0 (ns.map dRowL) = true
  | [] => by rw [List.map_nil, PyData.canLayAll0]
  | n :: ns => by rw [List.map_cons, PyData.canLayAll0, layRowsL ns]; unfold dRowL; rw [PyData.canLay0, layInts]; rfl
theorem depRows : ∀ ns : List (List Int), PyData.depthAll (ns.map dRow) ≤ 1
  | [] => by rw [List.map_nil, PyData.depthAll]; omega
  | n :: ns => by
    have := depRows ns
    rw [List.map_cons, PyData.depthAll]; unfold dRow; rw [PyData.depth, depInts]; unfold dRow at this; omega
theorem depRowsL : ∀ ns : List (List Int), PyData.depthAll (ns.map dRowL) ≤ 1
  | [] => by rw [List.map_nil, PyData.depthAll]; omega
  | n :: ns => by
    have := depRowsL ns
    rw [List.map_cons, PyData.depthAll]; unfold dRowL; rw [PyData.depth, depInts]; unfold dRowL at this; omega
theorem sh_tab (ns : List (List Int)) : SeqAt.shaped (dTab ns) = true := by
  have := depRows ns
  unfold dTab SeqAt.shaped; rw [PyData.canLay0, PyData.depth, layRows, Bool.true_and]; exact decide_eq_true (by omega)
theorem sh_tabL (ns : List (List Int)) : SeqAt.shaped (dTabL ns) = true := by
  have := depRowsL ns
  unfold dTabL SeqAt.shaped; rw [PyData.canLay0, PyData.depth, layRowsL, Bool.true_and]; exact decide_eq_true (by omega)
theorem eqvRows : ∀ ns ms : List (List Int), PyData.eqvAll (ns.map dRow) (ms.map dRow) = decide (ns = ms)
  | [], [] => by simp [PyData.eqvAll]
  | [], m :: ms => by simp [PyData.eqvAll]
  | n :: ns, [] => by simp [PyData.eqvAll]
  | n :: ns, m :: ms => by
    rw [List.map_cons, List.map_cons, PyData.eqvAll, eqvRows ns ms, eqv_row]
    simp
theorem eqvRowsL : ∀ ns ms : List (List Int), PyData.eqvAll (ns.map dRowL) (ms.map dRowL) = decide (ns = ms)
  | [], [] => by simp [PyData.eqvAll]
  | [], m :: ms => by simp [PyData.eqvAll]
  | n :: ns, [] => by simp [PyData.eqvAll]
  | n :: ns, m :: ms => by
    rw [List.map_cons, List.map_cons, PyData.eqvAll, eqvRowsL ns ms, eqv_rowL]
    simp
theorem eqv_tab (a b : List (List Int)) : PyData.eqv (dTab a) (dTab b) = decide (a = b) := by
  unfold dTab; rw [PyData.eqv, eqvRows]
theorem eqv_tabL (a b : List (List Int)) : PyData.eqv (dTabL a) (dTabL b) = decide (a = b) := by
  unfold dTabL; rw [PyData.eqv, eqvRowsL]
/-! ### tuples of many types -/
inductive CReps (K : Fg) (M : Hp) : List V → List Cl → Prop where
  | nil : CReps K M [] []
  | cons {c : Cl} {v : V} {vs : List V} {cs : List Cl} (h : c.t.rep K M v c.x) (r : CReps K M vs cs) : CReps K M (v :: vs) (c :: cs)
theorem cr_ext {K : Fg} {M M' : Hp} (e : Same M M') : ∀ {vs : List V} {cs : List Cl}, CReps K M vs cs → CReps K M' vs cs
  | _, _, .nil => .nil
  | _, _, .cons (c := c) h r => .cons (c.t.ext e h) (cr_ext e r)
def tTu {α : Type} (fs : α → List Cl) : Ty α := ⟨fun K M v x => ∃ a vs, v = .ref a ∧ SqT K M a vs ∧ CReps K M vs (fs x), fun e ⟨a, vs, h1, h2, h3⟩ => ⟨a, vs, h1, sqT_ext e h2, cr_ext e h3⟩⟩
theorem cr_of {K : Fg} {M : Hp} : ∀ {vs : List V} {cs : List Cl}, Reps K M vs (cs.map fun c => .vl c.t c.x) → CReps K M vs cs
  | _, [], h => by
    cases h; exact .nil
  | _, c :: cs, h => by
    cases h with
    | cons h r => exact .cons h (cr_of r)
theorem cr_len {K : Fg} {M : Hp} : ∀ {vs : List V} {cs : List Cl}, CReps K M vs cs → vs.length = cs.length
  | _, _, .nil => rfl
  | _, _, .cons _ r => by simp [cr_len r]
theorem cr_get {K : Fg} {M : Hp} : ∀ {vs : List V} {cs : List Cl} {i : Nat} {c : Cl}, CReps K M vs cs → cs[i]? = some c → ∃ v, vs[i]? = some v ∧ c.t.rep K M v c.x
  | _, _, _, _, .nil, e => by simp at e
  | _, _, 0, _, .cons h _, e => by simp at e; subst e; exact ⟨_, rfl, h⟩
  | _, _, i + 1, c, .cons _ r, e => by
    obtain ⟨v, q, h⟩ := cr_get (i := i) r (by simpa using e)
    exact ⟨v, by simpa using q, h⟩
section
variable {α β γ ι ρ : Type} {X : Cx} {G : List Sl} {a b c e : Expr} {es rest : List Expr} {s : Ty α} {t : Ty β} {u : Ty γ} {x : α} {y : β} {z : γ} {pos : Pos} {k : Nat}
theorem e_tu {fs : α → List Cl} {n : Nat} {ss : List Sl} (x : α) (h : EA X G es ss) (hs : ss = (fs x).map fun c => .vl c.t c.x := by rfl) (hl : (fs x).length ≤ 1000000 := by first | decide | (simp only [List.length_cons, List.length_nil]; omega) | exact Nat.le_of_ble_eq_true rfl) : E X G (.Tuple es n pos) (tTu fs) x := ⟨fun S Q k =>
  ⟨_, pe_tup pa_w, h.run S _ fun vs M1 H1 n1 r1 => by
    rw [hs] at r1
    have r2 := cr_of r1
    exact ⟨by rw [cr_len r2]; exact Nat.le_trans hl (by decide), fun p hp => k _ _ _ (n1.trans (Nx.new n1.sub hp)) ⟨p, vs, rfl, .inl (.inl upd_same), cr_ext (same_new (same_none n1.sub hp)) r2⟩⟩⟩⟩
theorem e_tuI {fs : α → List Cl} {i : Int} (y : β) (ha : E X G a (tTu fs) x) (hb : E X G b tI i) (h : (fs x)[i.toNat]? = some ⟨t, y⟩ := by rfl) (h0 : 0 ≤ i := by decide) (hs : PlainIx b := by exact fun _ _ => rfl) : E X G (.Subscript a b pos) t y := ⟨fun S Q k =>
  ⟨_, pe_ix ix_tup pe_w pe_w hs, ha.run S _ fun v M1 H1 n1 r1 => hb.run (S.next n1) _ fun w' M2 H2 n2 r2 => by
    obtain ⟨p, vs, e1, e2, e3⟩ := r1
    obtain ⟨v, q1, q2⟩ := cr_get e3 h
    have hl := (List.getElem?_eq_some_iff.mp q1).1
    refine ⟨p, _, i, v, e1, r2, sqT_ext (n2.vx.trans n2.sub) e2, ?_, k v M2 H2 (n1.trans n2) (t.ext n2.vx q2)⟩
    show (ixN vs.length i).bind (fun j => vs[j]?) = some v
    unfold ixN
    rw [if_pos h0, if_pos (by omega)]
    exact q1⟩⟩
/-! ### C(..), packed -/
structure Mkr (P : Program) (w : World) (K : Fg) (mg : Str → Option Value) (base : Heap) (k : Nat) (n : Str) (C : Addr) (ps : List Str) (sp : Sp) : Prop where
  ex : ∃ f fd, Mk K C f ∧ FnOk P w K mg base CX0 k f fd ps sp ∧ mg n = some (.ref C) ∧ Binds K fd ps []
theorem e_mk {P : Program} {w : World} {K : Fg} {mg : Str → Option Value} {base : Heap} {n : Str} {C : Addr} {ps : List Str} {ar : ι → List Sl} {pre : ι → Prop} {fs : ι → List (Str × Cl)} {p : Pos} (M : Mkr P w K mg base k n C ps (spI K C ar pre fs)) (hr : Room (k + 1) X.A) (i : ι) (ha : EA X G (e :: es) (ar i)) (hp : pre i)
    (hg : Gl X n := by rfl) (hdb : (n == ("__debug__" : Str)) = false := by decide) (he : starEach (e :: es) X.env = (false, eval e X.env) :: starEach es X.env := by rfl) (hpl : (backTo pos (starEach es X.env)).any (·.1) = false := by rfl)
    (xP : X.prog = P := by rfl) (xw : X.w = w := by rfl) (xK : X.K = K := by rfl) (xm : X.mg = mg := by rfl) (xb : X.base = base := by rfl) : E X G (.Call (.Name n p) (e :: es) [] pos) (tOb C fs) i := by
  obtain ⟨f, fd, h1, h2, h3, h4⟩ := M.ex
  exact e_make h1 h2 hr h3 h4 i ha hp hg hdb he hpl xP xw xK xm xb
end
end TL

namespace TL
open PySem PySem.Spec PyProof.Rows L2
/-! ### the end: what the top has left -/
section
variable {P : Program} {w : World} {K : Fg} {mg : Str → Option Value} {base h : Heap} {f D : Addr} {fd : FuncData} {x qual : Str} {st : Stmt}
theorem fn_in {k : Nat} {n : Str} {ps : List Str} {sp : Sp} (X : K.In h) (G : h.Ns mainGlobals mg) (a : PySem.W.nsIn K mainGlobals n = some (some (.ref f))) (F : Fun K x qual st f fd) (b : Binds K fd ps []) (ok : FnOk P w K mg base CX0 k f fd ps sp) : Fn P w K mg base CX0 k n ps sp :=
  ⟨f, fd, PySem.W.mg_of X G a, F.kp, b, ok⟩
/-- a def with one keyword-only parameter nm, default j -/
theorem funD_mk {nm : Str} {j : Int} {t : Tok} {oc : Value} {od an : Option Addr} {osl : Array (Option Value)} {doc pm cdv ct : Value} (l : K.lookup f = some ⟨oc, od, .func (PySem.W.fnOf x qual (defArgs st) (defBody st) (defScope st) .none (.ref D) doc pm an cdv ct), osl⟩)
    (c : PySem.W.codeIn K cdv qual = true) (k : PySem.W.keepIn K (.ref f) = true) (q : PySem.W.nsIn K D nm = some (some (.int j t))) : FunD K x qual (defArgs st) (defBody st) (defScope st) [] [(nm, .int j)] f (PySem.W.fnOf x qual (defArgs st) (defBody st) (defScope st) .none (.ref D) doc pm an cdv ct) :=
  ⟨⟨oc, od, .none, .ref D, doc, pm, an, cdv, ct, osl, rfl, l, c, .inl ⟨rfl, rfl⟩, .inr ⟨D, rfl, fun p hp => by
    rw [List.mem_singleton.mp hp]
    exact ⟨.int j t, q, t, rfl⟩⟩⟩, k⟩
theorem fnD_in {k n : Nat} {m nm : Str} {j : Int} {ps : List Str} {sp : Sp} (X : K.In h) (G : h.Ns mainGlobals mg) (a : PySem.W.nsIn K mainGlobals m = some (some (.ref f))) (F : FunD K x qual (defArgs st) (defBody st) (defScope st) [] [(nm, .int j)] f fd)
    (hn : n + 1 = ps.length)
    (h0 : ∀ (D : Addr) (doc pm : Value) (an : Option Addr) (cdv ct : Value) (us ks : List Value), us.length = n → ks.length = 1 → KwChain D ([nm].zip ks) (bindArgs (PySem.W.fnOf x qual (defArgs st) (defBody st) (defScope st) .none (.ref D) doc pm an cdv ct) ⟨us, []⟩) (ps.zip (us ++ ks)))
    (h1 : ∀ (kV doc pm : Value) (an : Option Addr) (cdv ct : Value) (us ws : List Value), us.length = n → ws.length = 1 → bindArgs (PySem.W.fnOf x qual (defArgs st) (defBody st) (defScope st) .none kV doc pm an cdv ct) ⟨us, [nm].zip ws⟩ = pure (ps.zip (us ++ ws)))
    (ok : FnOk P w K mg base CX0 k f fd ps sp) : FnD P w K mg base CX0 k m ps n [nm] [.int j] sp := by
  refine ⟨f, fd, PySem.W.mg_of X G a, F.kp, F.binds0 n (by simp) (by simpa using hn) h0, ⟨fun s us ws _ l1 l2 => ?_, fun r1 r2 => r1.append r2⟩, ok⟩
  obtain ⟨oc, od, dV, kV, doc, pm, an, cdv, ct, osl, rfl, lk, hcd, hD, hK⟩ := F.ex
  rcases hD with ⟨_, rfl⟩ | ⟨e, _⟩
  · exact .of_eq (h1 kV doc pm an cdv ct us ws l1 l2)
  · exact absurd rfl e
end
theorem pair_ints {K : Fg} {M : Hp} : ∀ ns : List Int, Paired (tI.rep K M) (ns.map V.int) ns
  | [] => .nil
  | n :: ns => .cons rfl (pair_ints ns)
theorem law_sp {K : Fg} {H : Hp} {a : Addr} {ns : List Int} (hl : ns.length ≤ 63) (hS : SqL K H a (ns.map V.int)) : spG K (fun i : List Int => [.vl (tSq tI) i]) (fun i => i.length ≤ 63) tB (fun _ => true) [.ref a] H (fun v _ => v = .bl true) (fun _ _ _ => False) :=
  ⟨ns, H, Same.refl H, .cons ⟨a, ns.map V.int, rfl, hS, pair_ints ns⟩ .nil, hl, fun v M' H' n r => r⟩
end TL

namespace TL
open PySem PySem.Spec PyProof.Rows L2
section
variable {X : Cx}
/-! ### x + y of an own class -/
def rAddOwn (C : Addr) (sp : Sp) (E : XK) : R2 := fun x y H Q => ∃ a dx vs b dy ws, x = .ref a ∧ y = .ref b ∧ H a = some (.ins C dx vs) ∧ H b = some (.ins C dy ws) ∧ sp [.ref a, .ref b] H Q E
theorem op_addOwn {CX : CXT} {k : Nat} {C f : Addr} {fd : FuncData} {ps : List Str} {sp : Sp} {E : XK} (hc : PySem.W.selfFirst X.K C = true) (hs : PySem.W.findIn X.K (.ref C) "__add__" = some (some (.ref f))) (hf : PySem.W.isFn X.K (.ref f) = true)
    (F : FnOk X.prog X.w X.K X.mg X.base CX k f fd ps sp) (hr : Room k X.A) (hb : Binds X.K fd ps []) (hx : Passes CX X E) : OpR X (binaryOp .Add) (rAddOwn C sp E) := by
  intro pins s σ H x y v u Q I rx ry h
  obtain ⟨a, dx, vs, b, dy, ws, rfl, rfl, ha, hb', q⟩ := h
  cases (show v = Value.ref a from rx)
  cases (show u = Value.ref b from ry)
  obtain ⟨mA, J, _⟩ := ins_get I.hok ha
  obtain ⟨mB, J', _⟩ := ins_get I.hok hb'
  obtain ⟨od, J, _⟩ := J.look
  obtain ⟨od', J', _⟩ := J'.look
  obtain ⟨m, hF⟩ := I.fr
  refine PySem.W.binop_K (op := .Add) hF I.ok.mod.kin J J'.type hc hs hf ?_
  refine wpAny_mono (run_fn (us := [.ref a, .ref b]) (vs := [.ref a, .ref b]) F hr hb .nil hx I (.cons rfl (.cons rfl .nil)) (by rw [List.append_nil]; exact q)) (fun w s' z => ?_) fun _ _ x => x
  obtain ⟨z', H', I', rz, qz⟩ := z
  exact SlX.cmpback rz ⟨z', H', I', rz, qz⟩
/-! ### is True, is False -/
theorem op_isB : OpR X (compareOp .Is) (fun x y H Q => ∃ a b, x = .bl a ∧ y = .bl b ∧ Q (.bl (a == b)) H) := by
  intro pins s σ H x y v u Q I rx ry h
  obtain ⟨a, b, rfl, rfl, q⟩ := h
  cases (show v = Value.bool a from rx)
  cases (show u = Value.bool b from ry)
  exact is_bool (fin_bl I q rfl)
end
section
variable {α β γ ι ρ : Type} {X : Cx} {G : List Sl} {a b c e : Expr} {es rest : List Expr} {s : Ty α} {t : Ty β} {u : Ty γ} {x : α} {y : β} {z : γ} {pos : Pos} {k : Nat} {R : Out}
theorem cv_isB {p q : Bool} : CmpV X .Is tB tB p q (p == q) := ⟨_, op_isB, fun M H v w Q m h1 h2 k => ⟨p, q, h1, h2, k M H (Nx.refl m)⟩⟩
/-- x in xs, of ints -/
theorem inV_ints (i : Int) : ∀ ns : List Int, inV (.int i) (ns.map V.int) = decide (i ∈ ns)
  | [] => rfl
  | n :: ns => by
    have ih := inV_ints i ns
    unfold inV at ih ⊢
    rw [List.map_cons, List.any_cons, ih]
    show ((n == i) || _) = _
    by_cases h : i = n
    · simp [h]
    · have h' : ¬ n = i := fun z => h z.symm
      simp [h, h']
theorem flat_ints : ∀ ns : List Int, (ns.map V.int).all flatV = true
  | [] => rfl
  | n :: ns => by rw [List.map_cons, List.all_cons, flat_ints ns]; rfl
theorem cv_inT {i : Int} {ns : List Int} : CmpV X .In tI (tTup tI) i ns (decide (i ∈ ns)) := ⟨_, op_in_seq, fun M H v w Q m h1 h2 k => by
  obtain ⟨p, vs, e1, e2, e3⟩ := h2
  have e4 := paired_int e3
  subst e4
  have h1' : v = .int i := h1
  subst h1'
  refine ⟨p, _, e1, .inr (sqT_ext m e2), rfl, flat_ints ns, ?_⟩
  rw [if_neg (by decide), inV_ints]; exact k M H (Nx.refl m)⟩
theorem cv_inL {i : Int} {ns : List Int} : CmpV X .In tI (tLst tI) i ns (decide (i ∈ ns)) := ⟨_, op_in_seq, fun M H v w Q m h1 h2 k => by
  obtain ⟨p, vs, e1, e2, e3⟩ := h2
  have e4 := paired_int e3
  subst e4
  have h1' : v = .int i := h1
  subst h1'
  refine ⟨p, _, e1, .inl (SqL.of (m _ _ e2)), rfl, flat_ints ns, ?_⟩
  rw [if_neg (by decide), inV_ints]; exact k M H (Nx.refl m)⟩
theorem cv_ninT {i : Int} {ns : List Int} : CmpV X .NotIn tI (tTup tI) i ns (!decide (i ∈ ns)) := ⟨_, op_notIn_seq, fun M H v w Q m h1 h2 k => by
  obtain ⟨p, vs, e1, e2, e3⟩ := h2
  have e4 := paired_int e3
  subst e4
  have h1' : v = .int i := h1
  subst h1'
  refine ⟨p, _, e1, .inr (sqT_ext m e2), rfl, flat_ints ns, ?_⟩
  rw [if_pos rfl, inV_ints]; exact k M H (Nx.refl m)⟩
theorem cv_ninL {i : Int} {ns : List Int} : CmpV X .NotIn tI (tLst tI) i ns (!decide (i ∈ ns)) := ⟨_, op_notIn_seq, fun M H v w Q m h1 h2 k => by
  obtain ⟨p, vs, e1, e2, e3⟩ := h2
  have e4 := paired_int e3
  subst e4
  have h1' : v = .int i := h1
  subst h1'
  refine ⟨p, _, e1, .inl (SqL.of (m _ _ e2)), rfl, flat_ints ns, ?_⟩
  rw [if_pos rfl, inV_ints]; exact k M H (Nx.refl m)⟩
/-- the truth of a list -/
theorem t_lst {xs : List α} (he : E X G a (tLst s) xs) (h : ∀ whole, isTrue a X.env whole = (do let v ← whole; standAt a.pos; holding [v] (truthy v)) := by intro _; rfl) : T X G a (!xs.isEmpty) := ⟨fun S Q k =>
  ⟨_, pt_truth pe_w h, he.run S _ fun v M1 H1 n1 r1 => by
    obtain ⟨p, vs, e1, e2, e3⟩ := r1
    subst e1
    refine ⟨!xs.isEmpty, .inl ⟨vs, SqL.of (n1.sub _ _ e2), ?_⟩, k M1 H1 n1⟩
    have := e3.length
    cases xs with
    | nil => rw [List.eq_nil_of_length_eq_zero this]; rfl
    | cons x xs =>
      cases vs with
      | nil => cases this
      | cons v vs => rfl⟩⟩
theorem t_tup {xs : List α} (he : E X G a (tTup s) xs) (h : ∀ whole, isTrue a X.env whole = (do let v ← whole; standAt a.pos; holding [v] (truthy v)) := by intro _; rfl) : T X G a (!xs.isEmpty) := ⟨fun S Q k =>
  ⟨_, pt_truth pe_w h, he.run S _ fun v M1 H1 n1 r1 => by
    obtain ⟨p, vs, e1, e2, e3⟩ := r1
    subst e1
    refine ⟨!xs.isEmpty, .inr (.inl ⟨vs, sqT_ext n1.sub e2, ?_⟩), k M1 H1 n1⟩
    have := e3.length
    cases xs with
    | nil => rw [List.eq_nil_of_length_eq_zero this]; rfl
    | cons x xs =>
      cases vs with
      | nil => cases this
      | cons v vs => rfl⟩⟩
/-- x = xs.pop() -/
theorem paired_last {α β : Type} {F : α → β → Prop} : ∀ {vs : List α} {xs : List β} {x : β}, Paired F vs (xs ++ [x]) → ∃ ws w, vs = ws ++ [w] ∧ Paired F ws xs ∧ F w x
  | _, [], x, h => by
    cases h with
    | cons h t => cases t; exact ⟨[], _, rfl, .nil, h⟩
  | _, y :: ys, x, h => by
    cases h with
    | cons h t =>
      obtain ⟨ws, w, rfl, p, q⟩ := paired_last (xs := ys) t
      exact ⟨_ :: ws, w, rfl, .cons h p, q⟩
theorem s_pop (k m : Nat) {n m' : Str} {p1 apos cpos pos' : Pos} {xs : List α} (hne : m ≠ k) (h0 : G[m]? = some (.ow s (xs ++ [x]))) (h : R.nx ((G.set m (.ow s xs)).set k (.vl s x))) (hN : X.N.Nodup) (hi : X.N[m]? = some n := by rfl) (hk : X.N[k]? = some m' := by rfl)
    (hv : Vis X.env.scope n := by first | exact Or.inl rfl | exact Or.inr (Or.inl rfl) | exact Or.inr (Or.inr rfl))
    (hd : (n == ("__debug__" : Str)) = false := by decide) (hcd : (n == ("__classdict__" : Str)) = false := by decide)
    (hbase : attributeBase (.Name n p1) "pop" X.env (eval (.Name n p1) X.env) = eval (.Name n p1) X.env := by rfl) (hline : (apos.endLine == cpos.line) = true := by rfl)
    (hx : Loc X.env.scope m' := by first | exact Or.inl rfl | exact Or.inr rfl) (hs : swapsWith (.Call (.Attribute (.Name n p1) "pop" apos) [] [] cpos) (some (.Name m' pos')) pos.line X.env = pure false := by rfl) (hf : X.fn m' = true ∨ X.env.scope.names.lookup m' = some .local := by first | exact .inl rfl | exact .inr rfl) :
    S1 X G (.Assign [.Name m' pos'] (.Call (.Attribute (.Name n p1) "pop" apos) [] [] cpos) pos) R := ⟨fun D E S tk f => by
  obtain ⟨a, vs, e0, hh, mp, pr, upd'⟩ := S.putOwn (ys := xs) h0
  obtain ⟨ws, w, rfl, pw, rw_⟩ := paired_last pr
  refine ⟨_, ps_set hN hk hx (pe_bm0 PySem.F.plainAttrs_list PySem.F.slot_list_pop PySem.F.type_list_pop mt_pop (pe_var hi hv hd hcd) hbase hline) hs hf, ?_⟩
  refine ⟨.ref a, e0, .inl ⟨rfl, _, SqL.of hh⟩, a, _, w, rfl, rfl, hh, ?_, ?_⟩
  · rw [List.length_append, List.length_singleton, Nat.add_sub_cancel, List.getElem?_append_right (Nat.le_refl _), Nat.sub_self]; rfl
  · rw [List.dropLast_concat]
    exact f.nx ((upd' ws pw).set (s := .vl s x) rw_) h⟩
/-- x + y of an own class, packed -/
structure AddC (P : Program) (w : World) (K : Fg) (mg : Str → Option Value) (base : Heap) (k : Nat) (C : Addr) (ps : List Str) (sp : Sp) : Prop where
  ex : ∃ f fd, PySem.W.selfFirst K C = true ∧ PySem.W.findIn K (.ref C) "__add__" = some (some (.ref f)) ∧ PySem.W.isFn K (.ref f) = true ∧ Binds K fd ps [] ∧ FnOk P w K mg base CX0 k f fd ps sp
theorem e_addOb {P : Program} {w : World} {K : Fg} {mg : Str → Option Value} {base : Heap} {C : Addr} {ps : List Str} {ar : ι → List Sl} {pre : ι → Prop} {tr : Ty ρ} {out : ι → ρ} {fs : α → List (Str × Cl)} {gs : β → List (Str × Cl)} (M : AddC P w K mg base k C ps (spG K ar pre tr out)) (hr : Room k X.A) (i : ι) (ha : E X G a (tOb C fs) x) (hb : E X G b (tOb C gs) y) (har : ar i = [.vl (tOb C fs) x, .vl (tOb C gs) y]) (hp : pre i)
    (xP : X.prog = P := by rfl) (xw : X.w = w := by rfl) (xK : X.K = K := by rfl) (xm : X.mg = mg := by rfl) (xb : X.base = base := by rfl) : E X G (.BinOp a .Add b pos) tr (out i) := by
  subst xP xw xK xm xb
  obtain ⟨f, fd, h1, h2, h3, h4, F⟩ := M.ex
  refine e_op2 (op_addOwn h1 h2 h3 F hr h4 (pass0 : Passes CX0 X (fun _ _ _ => False))) ha hb fun M H v w Q m r1 r2 k => ?_
  obtain ⟨p, dx, vs, e1, e2, e3⟩ := id r1
  obtain ⟨q, dy, ws, g1, g2, g3⟩ := id r2
  refine ⟨p, dx, vs, q, dy, ws, e1, g1, m _ _ e2, m _ _ g2, i, M, m, ?_, hp, fun u M' H' n r => k u M' H' n r⟩
  rw [har, ← e1, ← g1]
  exact .cons r1 (.cons r2 .nil)
/-- isinstance(x, C), x of the own class C -/
theorem e_isOwn {p : Pos} {C : Addr} {fs : α → List (Str × Cl)} (c : C8.InsC X.K C) (hm : X.mg "isinstance" = none) (ha : E X G a (tOb C fs) x) (hb : E X G b tC (.ref C)) (hg : Gl X "isinstance" := by rfl)
    (he : starEach [a, b] X.env = (false, eval a X.env) :: starEach [b] X.env := by rfl) (he2 : starEach [b] X.env = (false, eval b X.env) :: starEach [] X.env := by rfl) (hpl : (backTo pos (starEach [b] X.env)).any (·.1) = false := by rfl) : E X G (.Call (.Name "isinstance" p) [a, b] [] pos) tB true :=
  e_isi hm ha hb (fun M v r => by
    obtain ⟨q, dx, vs, e1, e2, e3⟩ := r
    subst e1
    exact ⟨.ref C, .ref C, .own C, fun H m => .base (.ins (m _ _ e2) c.cl c.ha c.hn c.htk c.hm), c.me⟩) hg he he2 hpl
end
end TL

namespace TL
open PySem PySem.Spec PyProof.Rows L2
/-! ### for i, x in enumerate(t), t a tuple -/
theorem meetsEn {v : Value} {o : Obj} {Ok : Heap → Prop} (B : Begins v o Ok) :
    Meets (Builtin.«enumerate.__new__» ⟨[.type "enumerate", v], []⟩) (fun _ R s => Ok s.heap ∧
      R (.ok (.ret (.ref (s.heap.push o).objs.size))) { s with heap := (s.heap.push o).push { cls := .type "enumerate", data := .fields #[.none, .bool false, .ref s.heap.objs.size, rawInt 0, .none, .none] } }) :=
  .of_wp fun prog w A R s h => by
    obtain ⟨hp, g, d, tk, os⟩ := s
    obtain ⟨hv, h⟩ := h
    have sb := sub_enumerate
    have pi : ∀ {A' : Around} {E' : Value → Shared → Prop} {Q' : Value → Shared → Prop}, Q' (.ref hp.objs.size) ⟨hp.push o, g, d, tk, os⟩ → wpAny (model prog w) A' (pyIter v) Q' E' ⟨hp, g, d, tk, os⟩ := fun q => B.iter prog w _ _ ⟨hp, g, d, tk, os⟩ _ hv q
    wp_walk using pi
    refine wpAny_stack_any fun st => wpAny_pure ?_
    split
    · rename_i cc _ _ _ _ _
      cases (cc == Value.type "enumerate") <;> (wp_walk using pi; exact ⟨_, rfl, h⟩)
    · wp_walk using pi
      exact ⟨_, rfl, h⟩
section
variable {prog : Program} {w : World} {A : Around} {E : Value → Shared → Prop} {s : Shared}
theorem callEnB {v : Value} {o : Obj} {Ok : Heap → Prop} {Q : Value → Shared → Prop} (B : Begins v o Ok) (hv : Ok s.heap)
    (h : ∀ h', IsEnum h' (s.heap.objs.size + 1) s.heap.objs.size 0 .none → h'.get? s.heap.objs.size = some o → (∀ b ob, s.heap.get? b = some ob → h'.get? b = some ob) → Q (.ref (s.heap.objs.size + 1)) { s with heap := h' }) :
    wpAny (model prog w) A (call (.type "enumerate") [v]) Q E s := by
  refine callType_new F.called_enumerate (by decide) (F.typeCall_enumerate_1 _) (F.newCall_enumerate_1 _) (fun ob => F.args_object_init_2 ob _) F.entry_enumerate_new (meetsEn B) ⟨hv, ?_⟩
  have z1 : (s.heap.push o).objs.size = s.heap.objs.size + 1 := Heap.size_push ..
  show _ ∧ _
  rw [z1]
  have en : IsEnum ((s.heap.push o).push { cls := .type "enumerate", data := .fields #[.none, .bool false, .ref s.heap.objs.size, rawInt 0, .none, .none] }) (s.heap.objs.size + 1) s.heap.objs.size 0 .none := by
    have q := Heap.get?_push_size (s.heap.push o) (o := { cls := .type "enumerate", data := .fields #[.none, .bool false, .ref s.heap.objs.size, rawInt 0, .none, .none] }) rfl
    rw [z1] at q
    exact q
  exact ⟨⟨_, en, rfl⟩, h _ en (Heap.get?_push_of_some _ (Heap.get?_push_size _ B.free)) fun b ob x => Heap.get?_push_of_some _ (Heap.get?_push_of_some _ x)⟩
end
/-- the tuple at a, each item in a new pair behind its number -/
def ItT (K : Fg) (a : Addr) : It :=
  ⟨fun i H => ∃ (xs : List V) (x : V), SqT K H a xs ∧ xs[i]? = some x, fun i H v H' => ∃ p x, v = .ref p ∧ H p = none ∧ H' = upd H p (.tup [.int (i : Nat), x]) ∧ ∀ xs, SqT K H a xs → xs[i]? = some x, fun i H => ∃ xs : List V, SqT K H a xs ∧ xs.length = i⟩
theorem turnT {P : Program} {w : World} {K : Fg} {elts : List Expr} {kk : Nat} {tpos : Pos} (a e it : Addr) (n1 : e ≠ it) (n2 : a ≠ it) (n3 : e ≠ a) :
    Turn P w K (.Tuple elts kk tpos) (ItT K a) [e, it] e (fun i h => (∃ old, IsEnum h e it ((i : Nat) : Int) old) ∧ h.IsTupleIter it a i) where
  mem := by simp
  obj := fun i h st b hb => by
    obtain ⟨⟨old, he⟩, o, ho, hc, hd⟩ := st
    rcases (show b = e ∨ b = it by simpa using hb) with z | z
    · rw [z]; exact ⟨_, he, fun v q => nomatch q⟩
    · rw [z]; exact ⟨o, ho, fun v q => by rw [hd] at q; cases q⟩
  keep := fun i h h' st k => ⟨let ⟨old, he⟩ := st.1; ⟨old, k e (by simp) _ he⟩, st.2.at fun o q => k it (by simp) o q⟩
  item := by
    intro X hP hw hK hc i pins s σ H E I hf st hg
    subst hP hw hK
    obtain ⟨⟨old, he⟩, hit⟩ := st
    obtain ⟨xs, x, hq, hx⟩ := hg
    obtain ⟨its, rv, p, hz⟩ := I.tuple hq
    obtain ⟨u, hu, ru⟩ := rv.get hx
    have hel : e < s.heap.objs.size := Heap.lt_size he
    have hil : it < s.heap.objs.size := by obtain ⟨_, q, _⟩ := hit; exact Heap.lt_size q
    have D := Draws.tuple (prog := X.prog) (w := X.w) (A := X.A.in1) (I.ok.hd hc) it a n2 its.toArray
    refine wpAny_pyNext_enum_itemD D he ⟨hit, p⟩ (by simpa using (List.getElem?_eq_some_iff.mp hu).1) n1 (by simp [n1, n3]) fun y h' tk hy ho hst hT hsz hk => ?_
    have hyu : y = u := by
      have q : its.toArray[i]? = some u := by simpa using hu
      rw [q] at hy
      exact (Option.some.inj hy).symm
    subst hyu
    refine ⟨_, rfl, wpAny_letOwnedTupleGo_enum (s := { s with heap := h', toks := tk + 1 }) ho fun h'' he' sb => ?_⟩
    have hT2 : h''.get? s.heap.objs.size = some { cls := .type "tuple", data := .seq #[.int i tk, y] } := (sb.2 _ (Nat.ne_of_gt hel)).trans hT
    have fresh : ObjOk X.prog X.w (upd H s.heap.objs.size (.tup [.int (i : Nat), x])) h'' s.heap.objs.size (.tup [.int (i : Nat), x]) :=
      ⟨by show 2 ≤ sizeLine; decide, [.int i tk, y], .cons ⟨_, rfl⟩ (.cons ru .nil), ⟨_, hT2, rfl, _, rfl⟩⟩
    have I1 : Inv X pins σ (upd H s.heap.objs.size (.tup [.int (i : Nat), x])) { s with heap := h'', toks := tk + 1 } :=
      I.turnedNew (ch := [e, it]) (fun b ob hb q => (sb.2 b (fun z => hb (by simp [z]))).trans (hk b ob (fun z => hb (by simp [z])) (fun z => hb (by simp [z])) q)) hf (Nat.le_refl _) fresh
    refine ⟨.ref s.heap.objs.size, _, I1, rfl, ⟨_, x, rfl, I.hok.fresh (Nat.le_refl _), rfl, fun ys hy => by rw [I.tuple_inj hy hq]; exact hx⟩, ⟨⟨y, ?_⟩, hst.1.at fun o q => (sb.2 it (Ne.symm n1)).trans q⟩, fun b hb => ?_⟩
    · rw [show ((i + 1 : Nat) : Int) = (i : Int) + 1 by omega]; exact he'
    · have hb' : b < s.heap.objs.size := by
        rcases (show b = e ∨ b = it by simpa using hb) with z | z
        · rw [z]; exact hel
        · rw [z]; exact hil
      rw [upd_ne (Nat.ne_of_lt hb')]
      exact (hf b hb).1
  done := by
    intro X hP hw hK hc i pins s σ H E I hf st hg
    subst hP hw hK
    obtain ⟨⟨old, he⟩, hit⟩ := st
    obtain ⟨xs, hq, hx⟩ := hg
    obtain ⟨its, rv, p, hz⟩ := I.tuple hq
    obtain ⟨f0, f1, f2, f3, f4, f5⟩ := hf it (by simp)
    have hl : its.toArray.size = i := by have := rv.length; simp; omega
    have D := Draws.tuple (prog := X.prog) (w := X.w) (A := X.A.in1) (I.ok.hd hc) it a n2 its.toArray
    exact wpAny_pyNext_enum_endD D he (by rw [hl]; exact ⟨hit, p⟩) fun h' eb => ⟨rfl, I.turned (t' := s.toks) (fun b o hb q => eb b o hb q) f0 f1 f3 f4 f5⟩
  self := fun A i s Q E st h => let ⟨⟨_, he⟩, _⟩ := st; wpAny_pyIter_enum he h
def iEnT (K : Fg) (ta : TA) : TI := fun σ H R => ta σ H fun vs H1 => ∃ a xs, vs = [.ref a] ∧ SqT K H1 a xs ∧ R (ItT K a) H1
theorem pi_enT {X : Cx} {e : Expr} {ta : TA} {p pos tpos : Pos} {elts : List Expr} {kk : Nat} (hg : Gl X "enumerate") (hm : X.mg "enumerate" = none) (ha : PA X [e] ta) (hs : starEach [e] X.env = [(false, eval e X.env)] := by rfl) :
    PI X (.Tuple elts kk tpos) (.Call (.Name "enumerate" p) [e] [] pos) (iEnT X.K ta) := by
  refine ⟨fun pins s σ H R I h => ?_⟩
  refine Call_ (ld_blt I hg hm boot_enumerate (PyProof.Rows.callWith_type1 (thn (ha.run pos pins s σ H _ I h) fun us s1 ⟨vs, H1, I1, r1, a, xs, ex, hq, q⟩ => ?_) hs rfl))
  subst ex
  obtain ⟨u, rfl, ru⟩ := r1.one
  cases (show u = Value.ref a from ru)
  obtain ⟨its, rv, p', hz⟩ := I1.tuple hq
  have la : a < s1.heap.objs.size := p'.lt
  refine callEnB (begins_tuple a its.toArray) p' fun h' he hit hk => wpAny_pyIter_enum he ?_
  have I2 : Inv X pins σ H1 { s1 with heap := h' } := I1.kept (t' := s1.toks) hk
  refine ⟨s1.heap.objs.size + 1, [s1.heap.objs.size + 1, s1.heap.objs.size], _, _, H1, rfl, I2, turnT a (s1.heap.objs.size + 1) s1.heap.objs.size (Nat.succ_ne_self _) (Nat.ne_of_lt la) (Nat.ne_of_gt (Nat.lt_succ_of_lt la)), ⟨⟨.none, he⟩, _, hit, rfl, rfl⟩, fun b hb => ?_, q⟩
  have hle : s1.heap.objs.size ≤ b := by
    rcases (show b = s1.heap.objs.size + 1 ∨ b = s1.heap.objs.size by simpa using hb) with z | z
    · rw [z]; exact Nat.le_succ _
    · rw [z]; exact Nat.le_refl _
  exact I1.fpOk hle (I1.hok.fresh hle)
theorem walkT {K : Fg} {a : Addr} {xs : List V} : L2.Walk (ItT K a) xs.length (fun H => SqT K H a xs) (L2.YPair (fun i => some (.int (i : Nat))) (fun i => xs[i]?)) where
  goes := fun i H hi h => ⟨xs, xs[i], h, by simp [hi]⟩
  stops := fun H h => ⟨xs, h, rfl⟩
  yields := fun i H v H' hi h y => by
    obtain ⟨p, x, e1, e2, e3, e4⟩ := y
    exact ⟨p, .int (i : Nat), x, e1, e2, e3, rfl, e4 xs h⟩
section
variable {α β : Type} {X : Cx} {G : List Sl} {a e : Expr} {s : Ty α} {t : Ty β} {pos : Pos} {R : Out} {body : List Stmt}
/-- for i, x in enumerate(t) -/
theorem s_forEn (m1 m2 : Nat) {n1 n2 : Str} {q1 q2 q3 p1 p2 : Pos} {kt : Nat} {xs : List α} (I : Nat → List Sl → Prop) (G0 : List Sl) (hm : X.mg "enumerate" = none) (he : E X G a (tTup s) xs) (w0 : Sub G G0) (h0 : I 0 G0)
    (hs : ∀ m x G', xs[m]? = some x → I m G' → B X ((G'.set m1 (.vl tI (m : Int))).set m2 (.vl s x)) body ⟨I (m + 1), R.rt, R.nx, I (m + 1), R.xc⟩) (hd : ∀ G', I xs.length G' → R.nx G')
    (hN : X.N.Nodup) (hcm : X.calm = true) (hi1 : X.N[m1]? = some n1 := by rfl) (hi2 : X.N[m2]? = some n2 := by rfl)
    (hx1 : Loc X.env.scope n1 := by first | exact Or.inl rfl | exact Or.inr rfl) (hx2 : Loc X.env.scope n2 := by first | exact Or.inl rfl | exact Or.inr rfl) (hf1 : X.fn n1 = true ∨ X.env.scope.names.lookup n1 = some .local := by first | exact .inl rfl | exact .inr rfl) (hf2 : X.fn n2 = true ∨ X.env.scope.names.lookup n2 = some .local := by first | exact .inl rfl | exact .inr rfl)
    (hs1 : (assignEach [.Name n1 q1, .Name n2 q2] X.env).map (·.2) = assign (.Name n1 q1) X.env :: (assignEach [.Name n2 q2] X.env).map (·.2) := by rfl) (hs2 : (assignEach [.Name n2 q2] X.env).map (·.2) = assign (.Name n2 q2) X.env :: (assignEach [] X.env).map (·.2) := by rfl)
    (hn : (assignEach [.Name n1 q1, .Name n2 q2] X.env).length = 2 := by rfl) (hst : (assignEach [.Name n1 q1, .Name n2 q2] X.env).findIdx? (·.1) = none := by rfl)
    (hp : PassesOwn (model X.prog X.w) X.A X.env X.xe := by first | exact PassesOwn.never | assumption) (hg : Gl X "enumerate" := by rfl) (hse : starEach [a] X.env = [(false, eval a X.env)] := by rfl)
    (hfs : ∀ x, foldedSetIterable (.Call (.Name "enumerate" p1) [a] [] p2) X.env x = pure x := by intro _; rfl) : S1 X G (.For (.Tuple [.Name n1 q1, .Name n2 q2] kt q3) (.Call (.Name "enumerate" p1) [a] [] p2) body [] pos) R := ⟨fun {M0 H0 M H σ} D E S tk f =>
  ⟨_, ps_for hp hcm (pi_enT hg hm (pa_cons pe_w pa_nil hse) hse) (pg_tup hcm (pgs_cons (pg_name hN hi1 hx1 hf1) (pgs_cons (pg_name hN hi2 hx2 hf2) pgs_nil hs2) hs1) hn hst) pss_w hfs, he.run S _ fun v M1 H1 n1 r1 => by
    obtain ⟨p, vs, e1, e2, e3⟩ := r1
    subst e1
    have n0 := S.nx.trans n1
    refine ⟨p, vs, rfl, sqT_ext n1.sub e2, for_it (walkT (K := X.K) (a := p) (xs := vs)) (fun m σ' H' => ∃ M' G', St X.K M1 H0 M' H' σ' G' ∧ I m G') ⟨M1, G0, ((S.next n1).weak w0).rebase, h0⟩ (fun m σ' H' _ ⟨M', G', S', _⟩ => sqT_ext (S'.nx.vx.trans S'.sub) e2) ?_ ?_⟩
    · rintro m w σ' H' H2 hm ⟨M', G', S', hI⟩ ⟨p', x1, x2, g1, g2, g3, g4, g5⟩
      obtain ⟨x', k1, k2⟩ := paired_get' e3 g5
      cases (Option.some.inj g4)
      subst g1 g3
      have nn : Nx M' H' (upd M' p' (.tup [.int (m : Nat), x2])) (upd H' p' (.tup [.int (m : Nat), x2])) := Nx.new S'.sub g2
      have S2 := S'.next nn
      refine ⟨p', [.int (m : Nat), x2], rfl, .inl (.inl upd_same), rfl, _, _, rfl, _, _, rfl, rfl, (hs m x' G' k1 hI).run _ E ((S2.set (s := .vl tI (m : Int)) (v := .int (m : Nat)) rfl).set (s := .vl s x') (v := x2) (s.ext (S'.nx.vx.trans nn.vx) k2)) tk
        ⟨fun S2 h2 => ⟨_, _, S2, h2⟩, fun n2 h2 => f.rt (n0.unbase n2) h2, fun S2 h2 => f.nx (S2.unbase n0) h2, fun S2 h2 => ⟨_, _, S2, h2⟩, fun n2 h2 => f.xc (n0.unbase n2) h2⟩⟩
    · rintro σ' H' ⟨M', G', S', hI⟩
      rw [e3.length] at hI
      exact f.nx (S'.unbase n0) (hd G' hI)⟩⟩
end
end TL

namespace TL
open PySem PySem.Spec PyProof.Rows L2
/-! ### promises that tell only what is true of the answer -/
def spE {ι ρ : Type} (K : Fg) (ar : ι → List Sl) (pre : ι → Prop) (t : Ty ρ) (post : ι → ρ → Prop) : Sp := fun vs H Q _ =>
  ∃ (i : ι) (M : Hp), Same M H ∧ Reps K M vs (ar i) ∧ pre i ∧ ∀ y, post i y → ∀ v M' H', Nx M H M' H' → t.rep K M' v y → Q v H'
def RetE {ρ : Type} (K : Fg) (t : Ty ρ) (P : ρ → Prop) : Out := { nx := fun _ => False, rt := fun M v => ∃ y, P y ∧ t.rep K M v y }
section
variable {P : Program} {w : World} {K : Fg} {mg : Str → Option Value} {base : Heap} {ι ρ : Type}
theorem fn_okE {x qual : Str} {st : Stmt} {f : Addr} {fd : FuncData} {N ps : List Str} {k : Nat} {ar : ι → List Sl} {pre : ι → Prop} {t : Ty ρ} {post : ι → ρ → Prop} (F : Fun K x qual st f fd) (S : FnScope N ps (defScope st)) (n : Nat)
    (hn : N.length = ps.length + n) (hl : ∀ i, (ar i).length = ps.length)
    (hb : ∀ (cdv : Value) (A : Around) (outer : List Env) (s : Shared) (H : Hp) (E : XK), Room k (A.deeper (envOfC qual (defScope st) s.heap.objs.size f cdv)) → ∀ i, pre i →
      B (cxOf CX0 P w K mg base N qual (defScope st) f cdv A outer s H E).nox (ar i ++ List.replicate n .un) (defBody st) (RetE K t (post i))) : FnOk P w K mg base CX0 (k + 1) f fd ps (spE K ar pre t post) := by
  refine F.ok S (fun vs H Q E h => ?_) (fun cdv A outer s H vs Q E hr h => ⟨_, pss_w, ?_⟩)
  · obtain ⟨i, M, _, r, _⟩ := h
    rw [reps_len r, hl]
  · obtain ⟨i, M, m, r, hp, q⟩ := h
    refine (hb cdv A outer s H E hr i hp).run _ (fun _ _ _ => False) (st_start m r (by rw [hl]; exact hn)) takes_false ⟨fun S' h => h.elim, fun n2 ⟨y, hy, h⟩ => q y hy _ _ _ n2 h, fun _ h => h.elim, fun _ h => h.elim, fun _ h => h.elim⟩
end
section
variable {α β γ ι ρ : Type} {X : Cx} {G : List Sl} {a b c e : Expr} {es rest : List Expr} {s : Ty α} {t : Ty β} {u : Ty γ} {x : α} {y : β} {z : γ} {pos : Pos} {k : Nat} {R : Out}
/-- an expression of which only this is known -/
structure EX (X : Cx) (G : List Sl) (e : Expr) (t : Ty α) (P : α → Prop) : Prop where
  run : ∀ {M0 H0 M H : Hp} {σ : L2.St}, St X.K M0 H0 M H σ G → ∀ (Q : VK), (∀ y, P y → ∀ v M' H', Nx M H M' H' → t.rep X.K M' v y → Q v H') → wE X e σ H Q
structure EAX (X : Cx) (G : List Sl) (es : List Expr) (P : List Sl → Prop) : Prop where
  run : ∀ {M0 H0 M H : Hp} {σ : L2.St}, St X.K M0 H0 M H σ G → ∀ (Q : List V → Hp → Prop), (∀ ss, P ss → ∀ vs M' H', Nx M H M' H' → Reps X.K M' vs ss → Q vs H') → wA X es σ H Q
theorem E.toX {P : α → Prop} (h : E X G e s x) (p : P x) : EX X G e s P := ⟨fun S Q k => h.run S Q fun v M' H' n r => k x p v M' H' n r⟩
theorem EX.weak {P Q : α → Prop} (h : EX X G e s P) (q : ∀ y, P y → Q y) : EX X G e s Q := ⟨fun S R k => h.run S R fun y p => k y (q y p)⟩
theorem eax_nil : EAX X G [] (fun ss => ss = []) := ⟨fun {M0 H0 M H σ} S Q k => ⟨_, pa_nil, k [] rfl [] M H (Nx.refl S.sub) .nil⟩⟩
theorem eax_cons {P : α → Prop} {P' : List Sl → Prop} (h : EX X G e s P) (hr : EAX X G es P') (hs : starEach (e :: es) X.env = (false, eval e X.env) :: starEach es X.env := by rfl) : EAX X G (e :: es) (fun ss => ∃ y r, P y ∧ P' r ∧ ss = .vl s y :: r) := ⟨fun S Q k =>
  ⟨_, pa_cons pe_w pa_w hs, h.run S _ fun y py v M1 H1 n1 r1 => hr.run (S.next n1) _ fun ss ps vs M2 H2 n2 r2 => k _ ⟨y, ss, py, ps, rfl⟩ _ M2 H2 (n1.trans n2) (.cons (s.ext n2.vx r1) r2)⟩⟩
/-- a value first, the rest exact -/
theorem EA.toX {ss : List Sl} (h : EA X G es ss) : EAX X G es (fun r => r = ss) := ⟨fun S Q k => h.run S Q fun vs M' H' n r => k ss rfl vs M' H' n r⟩
theorem ex_call {P : Program} {w : World} {K : Fg} {mg : Str → Option Value} {base : Heap} {n : Str} {ps : List Str} {ar : ι → List Sl} {pre : ι → Prop} {tr : Ty ρ} {post : ι → ρ → Prop} {PA : List Sl → Prop} {PR : ρ → Prop} {p : Pos} (C : Fn P w K mg base CX0 k n ps (spE K ar pre tr post)) (hr : Room k X.A) (ha : EAX X G (e :: es) PA) (hp : ∀ ss, PA ss → ∃ i, ar i = ss ∧ pre i ∧ ∀ y, post i y → PR y)
    (hg : Gl X n := by rfl) (hdb : (n == ("__debug__" : Str)) = false := by decide) (he : starEach (e :: es) X.env = (false, eval e X.env) :: starEach es X.env := by rfl) (hpl : (backTo pos (starEach es X.env)).any (·.1) = false := by rfl)
    (xP : X.prog = P := by rfl) (xw : X.w = w := by rfl) (xK : X.K = K := by rfl) (xm : X.mg = mg := by rfl) (xb : X.base = base := by rfl) : EX X G (.Call (.Name n p) (e :: es) [] pos) tr PR := ⟨fun S Q q => by
  subst xP xw xK xm xb
  obtain ⟨f, fd, hm, hk, hb, F⟩ := C.ex
  refine ⟨_, pe_call F hr hg hm hk hb .nil pass0 pa_w hdb he hpl, ha.run S _ fun ss pss vs M1 H1 n1 r1 => ?_⟩
  rw [List.append_nil]
  obtain ⟨i, e1, e2, e3⟩ := hp ss pss
  exact ⟨i, M1, n1.sub, by rw [e1]; exact r1, e2, fun y py v M2 H2 n2 r2 => q y (e3 y py) v M2 H2 (n1.trans n2) r2⟩⟩
/-- the same, of a def whose answer is known, at arguments of which less is known -/
theorem ex_callG {P : Program} {w : World} {K : Fg} {mg : Str → Option Value} {base : Heap} {n : Str} {ps : List Str} {ar : ι → List Sl} {pre : ι → Prop} {tr : Ty ρ} {out : ι → ρ} {PA : List Sl → Prop} {PR : ρ → Prop} {p : Pos} (C : Fn P w K mg base CX0 k n ps (spG K ar pre tr out)) (hr : Room k X.A) (ha : EAX X G (e :: es) PA) (hp : ∀ ss, PA ss → ∃ i, ar i = ss ∧ pre i ∧ PR (out i))
    (hg : Gl X n := by rfl) (hdb : (n == ("__debug__" : Str)) = false := by decide) (he : starEach (e :: es) X.env = (false, eval e X.env) :: starEach es X.env := by rfl) (hpl : (backTo pos (starEach es X.env)).any (·.1) = false := by rfl)
    (xP : X.prog = P := by rfl) (xw : X.w = w := by rfl) (xK : X.K = K := by rfl) (xm : X.mg = mg := by rfl) (xb : X.base = base := by rfl) : EX X G (.Call (.Name n p) (e :: es) [] pos) tr PR := ⟨fun S Q q => by
  subst xP xw xK xm xb
  obtain ⟨f, fd, hm, hk, hb, F⟩ := C.ex
  refine ⟨_, pe_call F hr hg hm hk hb .nil pass0 pa_w hdb he hpl, ha.run S _ fun ss pss vs M1 H1 n1 r1 => ?_⟩
  rw [List.append_nil]
  obtain ⟨i, e1, e2, e3⟩ := hp ss pss
  exact ⟨i, M1, n1.sub, by rw [e1]; exact r1, e2, fun v M2 H2 n2 r2 => q (out i) e3 v M2 H2 (n1.trans n2) r2⟩⟩
theorem s_setX (k : Nat) {n : Str} {pos' : Pos} {P : α → Prop} (he : EX X G e s P) (h : ∀ x, P x → R.nx (G.set k (.vl s x))) (hN : X.N.Nodup) (hi : X.N[k]? = some n := by rfl) (hx : Loc X.env.scope n := by first | exact Or.inl rfl | exact Or.inr rfl)
    (hs : swapsWith e (some (.Name n pos')) pos.line X.env = pure false := by rfl) (hf : X.fn n = true ∨ X.env.scope.names.lookup n = some .local := by first | exact .inl rfl | exact .inr rfl) : S1 X G (.Assign [.Name n pos'] e pos) R := ⟨fun D E S tk f =>
  ⟨_, ps_set hN hi hx pe_w hs hf, he.run S _ fun y py v M1 H1 n1 r1 => f.nx ((S.next n1).set (s := .vl s y) r1) (h y py)⟩⟩
theorem s_retX {P : α → Prop} (he : EX X G e s P) (h : ∀ y, P y → ∀ M v, s.rep X.K M v y → R.rt M v) : S1 X G (.Return (some e) pos) R := ⟨fun D E S tk f =>
  ⟨_, ps_ret pe_w, he.run S _ fun y py v M1 H1 n1 r1 => f.rt (S.nx.trans n1) (h y py M1 v r1)⟩⟩
end
end TL

namespace TL
open PySem PySem.Spec PyProof.Rows L2
/-! ### a comprehension within a comprehension -/
theorem look_rel {env : Env} {x : Str} : ∀ {ns : List (Str × NameKind)}, (ns.lookup x = some .cell ∨ ns.lookup x = some .free) →
    ((ns.map fun (n, k) => if (k == NameKind.free && env.scope.kind == .function && env.kindOf n == some .cell) then (n, NameKind.cell) else (n, k)).lookup x = some .cell ∨ (ns.map fun (n, k) => if (k == NameKind.free && env.scope.kind == .function && env.kindOf n == some .cell) then (n, NameKind.cell) else (n, k)).lookup x = some .free)
  | [], h => by simp at h
  | (n, k) :: r, h => by
    rw [List.map_cons]
    dsimp only
    cases hx : x == n with
    | true =>
      simp only [List.lookup_cons, hx] at h
      by_cases hc : (k == NameKind.free && env.scope.kind == .function && env.kindOf n == some .cell) = true
      · rw [if_pos hc]; simp only [List.lookup_cons, hx]; first | exact .inl trivial | exact .inl rfl
      · rw [if_neg hc]; simp only [List.lookup_cons, hx]; exact h
    | false =>
      simp only [List.lookup_cons, hx] at h
      have ih := look_rel (env := env) h
      by_cases hc : (k == NameKind.free && env.scope.kind == .function && env.kindOf n == some .cell) = true
      · rw [if_pos hc]; simp only [List.lookup_cons, hx]; exact ih
      · rw [if_neg hc]; simp only [List.lookup_cons, hx]; exact ih
theorem blkIn {N : List Str} {outer scope : Scope} {own : List (Str × Nat)} {env : Env} {cl : List (Str × Addr)} {C : Addr} (h : blkC N outer scope own = true) : BlkOk N (compEnvC outer cl C env).scope scope own := by
  have b := blkOk_by h
  exact ⟨b.kind, b.uniq, b.ix, fun y hy e => look_rel (b.free y hy e), b.own⟩
end TL

namespace TL
open PySem PySem.Spec PyProof.Rows L2
/-! ### defs that return a new list, which the caller may change -/
def spN {ι α : Type} (K : Fg) (ar : ι → List Sl) (pre : ι → Prop) (t : Ty α) (post : ι → List α → Prop) : Sp := fun vs H Q _ =>
  ∃ (i : ι) (M : Hp), Same M H ∧ Reps K M vs (ar i) ∧ pre i ∧ ∀ y, post i y → ∀ p M' H' us, Nx M H M' H' → H p = none → M' p = none → H' p = some (.lst us) → Paired (t.rep K M') us y → Q (.ref p) H'
structure BN {α : Type} (X : Cx) (G : List Sl) (sts : List Stmt) (t : Ty α) (P : List α → Prop) : Prop where
  run : ∀ {M0 H0 M H : Hp} {σ : L2.St} (D : Ends) (E : XK), St X.K M0 H0 M H σ G → Takes X (fun c d _ H => E c d H) → (∀ y, P y → ∀ p M' H' us, Nx M0 H0 M' H' → H0 p = none → M' p = none → H' p = some (.lst us) → Paired (t.rep X.K M') us y → D.rt (.ref p) H') → wS X sts D σ H
structure ELX {α : Type} (X : Cx) (G : List Sl) (e : Expr) (t : Ty α) (P : List α → Prop) : Prop where
  run : ∀ {M0 H0 M H : Hp} {σ : L2.St}, St X.K M0 H0 M H σ G → ∀ (Q : VK), (∀ y, P y → ∀ p M' H' us, Nx M H M' H' → H p = none → M' p = none → H' p = some (.lst us) → Paired (t.rep X.K M') us y → Q (.ref p) H') → wE X e σ H Q
section
variable {α β ι : Type} {X : Cx} {G : List Sl} {a b e : Expr} {es : List Expr} {st : Stmt} {rest : List Stmt} {t : Ty α} {s : Ty β} {P : List α → Prop} {xs : List α} {pos : Pos} {k : Nat} {R : Out}
theorem EL.toX (h : EL X G e t xs) (p : P xs) : ELX X G e t P := ⟨fun S Q k => h.run S Q fun q M' H' us n h1 h2 h3 h4 => k xs p q M' H' us n h1 h2 h3 h4⟩
theorem ELX.toE (h : ELX X G e t P) : EX X G e (tLst t) P := ⟨fun S Q k => h.run S Q fun y py p M' H' us n hp mp hh r =>
  k y py (.ref p) (upd M' p (.lst us)) H' ⟨n.ex, n.vx.trans (same_new mp), fun b o q => by
    by_cases z : b = p
    · subst z; rw [upd_same] at q; cases q; exact hh
    · rw [upd_ne z] at q; exact n.sub b o q, fun b n1 n2 => by
    rw [upd_ne (fun z => n2 (by rw [z]; exact hp))]; exact n.fr b n1 n2⟩ ⟨p, us, rfl, upd_same, paired_imp (fun _ _ q => t.ext (same_new mp) q) r⟩⟩
theorem bn_cons (h : S1 X G st { nx := fun G' => BN X G' rest t P, rt := fun _ _ => False }) : BN X G (st :: rest) t P := ⟨fun D E S tk f =>
  ⟨_, pss_cons ps_w pss_w, h.run { D with nx := wS X rest D } (fun _ _ _ => False) S takes_false ⟨fun S' hb => hb.run D E S' tk f, fun _ h => h.elim, fun _ h => h.elim, fun _ h => h.elim, fun _ h => h.elim⟩⟩⟩
theorem bn_cut (N : List Sl → Prop) (h : S1 X G st { nx := N, rt := fun _ _ => False }) (k : ∀ G', N G' → BN X G' rest t P) : BN X G (st :: rest) t P :=
  bn_cons ⟨fun D E S tk f => h.run D E S tk ⟨fun S' hn => f.nx S' (k _ hn), f.rt, f.bk, f.ct, f.xc⟩⟩
theorem bn_ret (h : ELX X G e t P) : BN X G [.Return (some e) pos] t P := ⟨fun {M0 H0 M H σ} D E S tk f =>
  ⟨_, pss_one (ps_ret pe_w), h.run S _ fun y py p M' H' us n h1 h2 h3 h4 => f y py p M' H' us (S.nx.trans n) (S.nx.ex.free h1) h2 h3 h4⟩⟩
theorem bn_retOwn (k : Nat) {n : Str} {p1 : Pos} (h0 : G[k]? = some (.ow t xs)) (h : P xs) (hi : X.N[k]? = some n := by rfl)
    (hv : Vis X.env.scope n := by first | exact Or.inl rfl | exact Or.inr (Or.inl rfl) | exact Or.inr (Or.inr rfl))
    (hd : (n == ("__debug__" : Str)) = false := by decide) (hcd : (n == ("__classdict__" : Str)) = false := by decide) : BN X G [.Return (some (.Name n p1)) pos] t P := ⟨fun {M0 H0 M H σ} D E S tk f => by
  obtain ⟨A, q1, _⟩ := S.sl
  obtain ⟨o, q, a, _, e, f0, hm, vs, hh, pr⟩ := q1 k _ h0
  subst e
  exact ⟨_, pss_one (ps_ret (pe_var hi hv hd hcd)), .ref a, q, f xs h a M H vs S.nx f0 hm hh pr⟩⟩
theorem bn_freeze (k : Nat) {s : Ty β} {xs : List β} (h : G[k]? = some (.ow s xs)) (hb : BN X (G.set k (.vl (tLst s) xs)) rest t P) : BN X G rest t P := ⟨fun D E S tk f => by
  obtain ⟨a, vs, _, _, _, S'⟩ := S.freeze h
  exact hb.run D E S' tk f⟩
theorem elx_call {P0 : Program} {w : World} {K : Fg} {mg : Str → Option Value} {base : Heap} {n : Str} {ps : List Str} {ar : ι → List Sl} {pre : ι → Prop} {post : ι → List α → Prop} {PA : List Sl → Prop} {p : Pos} (C : Fn P0 w K mg base CX0 k n ps (spN K ar pre t post)) (hr : Room k X.A) (ha : EAX X G (e :: es) PA) (hp : ∀ ss, PA ss → ∃ i, ar i = ss ∧ pre i ∧ ∀ y, post i y → P y)
    (hg : Gl X n := by rfl) (hdb : (n == ("__debug__" : Str)) = false := by decide) (he : starEach (e :: es) X.env = (false, eval e X.env) :: starEach es X.env := by rfl) (hpl : (backTo pos (starEach es X.env)).any (·.1) = false := by rfl)
    (xP : X.prog = P0 := by rfl) (xw : X.w = w := by rfl) (xK : X.K = K := by rfl) (xm : X.mg = mg := by rfl) (xb : X.base = base := by rfl) : ELX X G (.Call (.Name n p) (e :: es) [] pos) t P := ⟨fun S Q q => by
  subst xP xw xK xm xb
  obtain ⟨f, fd, hm, hk, hb, F⟩ := C.ex
  refine ⟨_, pe_call F hr hg hm hk hb .nil pass0 pa_w hdb he hpl, ha.run S _ fun ss pss vs M1 H1 n1 r1 => ?_⟩
  rw [List.append_nil]
  obtain ⟨i, e1, e2, e3⟩ := hp ss pss
  exact ⟨i, M1, n1.sub, by rw [e1]; exact r1, e2, fun y py p M2 H2 us n2 h1 h2 h3 h4 => q y (e3 y py) p M2 H2 us (n1.trans n2) (n1.ex.free h1) h2 h3 h4⟩⟩
theorem s_ownX (k : Nat) {n : Str} {pos' : Pos} (he : ELX X G e t P) (h : ∀ xs, P xs → R.nx (G.set k (.ow t xs))) (hN : X.N.Nodup) (hi : X.N[k]? = some n := by rfl) (hx : Loc X.env.scope n := by first | exact Or.inl rfl | exact Or.inr rfl)
    (hs : swapsWith e (some (.Name n pos')) pos.line X.env = pure false := by rfl) (hf : X.fn n = true ∨ X.env.scope.names.lookup n = some .local := by first | exact .inl rfl | exact .inr rfl) : S1 X G (.Assign [.Name n pos'] e pos) R := ⟨fun D E S tk f =>
  ⟨_, ps_set hN hi hx pe_w hs hf, he.run S _ fun y py p M1 H1 vs n1 hp mp hh r1 => f.nx (S.setOwn n1 hp mp hh r1) (h y py)⟩⟩
end
section
variable {P : Program} {w : World} {K : Fg} {mg : Str → Option Value} {base : Heap} {ι α : Type}
theorem fn_okN {x qual : Str} {st : Stmt} {f : Addr} {fd : FuncData} {N ps : List Str} {k : Nat} {ar : ι → List Sl} {pre : ι → Prop} {t : Ty α} {post : ι → List α → Prop} (F : Fun K x qual st f fd) (S : FnScope N ps (defScope st)) (n : Nat)
    (hn : N.length = ps.length + n) (hl : ∀ i, (ar i).length = ps.length)
    (hb : ∀ (cdv : Value) (A : Around) (outer : List Env) (s : Shared) (H : Hp) (E : XK), Room k (A.deeper (envOfC qual (defScope st) s.heap.objs.size f cdv)) → ∀ i, pre i →
      BN (cxOf CX0 P w K mg base N qual (defScope st) f cdv A outer s H E).nox (ar i ++ List.replicate n .un) (defBody st) t (post i)) : FnOk P w K mg base CX0 (k + 1) f fd ps (spN K ar pre t post) := by
  refine F.ok S (fun vs H Q E h => ?_) (fun cdv A outer s H vs Q E hr h => ⟨_, pss_w, ?_⟩)
  · obtain ⟨i, M, _, r, _⟩ := h
    rw [reps_len r, hl]
  · obtain ⟨i, M, m, r, hp, q⟩ := h
    exact (hb cdv A outer s H E hr i hp).run _ (fun _ _ _ => False) (st_start m r (by rw [hl]; exact hn)) takes_false fun y py p M' H' us n h1 h2 h3 h4 => q y py p M' H' us n h1 h2 h3 h4
end
end TL

namespace TL
open PySem PySem.Spec PyProof.Rows L2
section
variable {X : Cx} {G : List Sl} {a : Expr} {pos : Pos} {i : Int}
def firstN (i : Int) : List Int := (List.range i.toNat).map fun k : Nat => (k : Int)
theorem rgV_first (i : Int) : rgV 0 i = (firstN i).map V.int := by
  unfold rgV firstN
  rw [List.map_map, Int.sub_zero]
  apply List.map_congr_left
  intro k _
  show V.int (0 + (k : Int)) = V.int (k : Int)
  rw [Int.zero_add]
/-- list(range(i)) -/
theorem el_listR {p p1 p2 : Pos} (hcm : X.calm = true) (hl : X.mg "list" = none) (hm : X.mg "range" = none) (ha : E X G a tI i) (hi : -1000000 ≤ i ∧ i ≤ 1000000) (hg : Gl X "list" := by rfl) (hg2 : Gl X "range" := by rfl)
    (he : starEach [a] X.env = (false, eval a X.env) :: starEach [] X.env := by rfl) (he2 : starEach [.Call (.Name "range" p1) [a] [] p2] X.env = (false, eval (.Call (.Name "range" p1) [a] [] p2) X.env) :: starEach [] X.env := by rfl) : EL X G (.Call (.Name "list" p) [.Call (.Name "range" p1) [a] [] p2] [] pos) tI (firstN i) := ⟨fun {M0 H0 M H σ} S Q k =>
  ⟨_, pe_listRg hcm hg hl (prg_1 hg2 hm pe_w he) he2, ha.run S _ fun v M1 H1 n1 r1 => ⟨i, r1, by
    refine ⟨?_, fun q hq => ?_⟩
    · unfold RgOk; refine ⟨by omega, by omega, by omega, by omega, ?_⟩
      have : (sizeLine : Nat) ≥ 1000000 := by decide
      omega
    · rw [rgV_first]
      exact k q M1 _ _ ⟨n1.ex.trans (same_new hq), n1.vx, n1.sub.trans (same_new hq), n1.fr⟩ (n1.ex.free hq) (same_none n1.sub hq) upd_same (pair_ints _)⟩⟩⟩
end
end TL

namespace TL
open PySem PySem.Spec PyProof.Rows L2
/-- [a, b], of b only a property is known -/
theorem elx_two {α : Type} {X : Cx} {G : List Sl} {a b : Expr} {pos : Pos} {t : Ty α} {x : α} {Q : α → Prop} {P : List α → Prop} (ha : E X G a t x) (hb : EX X G b t Q) (h : ∀ y, Q y → P [x, y]) (hs : starEach [a, b] X.env = (false, eval a X.env) :: starEach [b] X.env := by rfl) (hs2 : starEach [b] X.env = (false, eval b X.env) :: starEach [] X.env := by rfl) : ELX X G (.List [a, b] pos) t P := ⟨fun {M0 H0 M H σ} S R k =>
  ⟨_, pe_lst (pa_cons pe_w (pa_cons pe_w pa_nil hs2) hs), ha.run S _ fun v M1 H1 n1 r1 => hb.run (S.next n1) _ fun y qy w M2 H2 n2 r2 => ⟨by show 2 ≤ sizeLine; decide, fun p hp =>
    k [x, y] (h y qy) p M2 _ [v, w] ⟨(n1.trans n2).ex.trans (same_new hp), (n1.trans n2).vx, (n1.trans n2).sub.trans (same_new hp), (n1.trans n2).fr⟩ ((n1.trans n2).ex.free hp) (same_none n2.sub hp) upd_same (.cons (t.ext n2.vx r1) (.cons r2 .nil))⟩⟩⟩
end TL

namespace TL
open PySem PySem.Spec PyProof.Rows L2
section
variable {α β γ : Type} {X : Cx} {G : List Sl} {a b c e ib : Expr} {es rest : List Expr} {s : Ty α} {t : Ty β} {u : Ty γ} {x : α} {y : β} {z : γ} {pos : Pos} {i j : Int} {xs ys : List α} {p q : Bool}
/-- xs[i], xs a list of the frame's own -/
theorem e_ixOw (m : Nat) {n : Str} {p1 : Pos} (h0 : G[m]? = some (.ow s xs)) (hib : E X G ib tI i) (h : atI xs i = some x) (hi : X.N[m]? = some n := by rfl)
    (hv : Vis X.env.scope n := by first | exact Or.inl rfl | exact Or.inr (Or.inl rfl) | exact Or.inr (Or.inr rfl))
    (hd : (n == ("__debug__" : Str)) = false := by decide) (hcd : (n == ("__classdict__" : Str)) = false := by decide) (hs : PlainIx ib := by exact fun _ _ => rfl) : E X G (.Subscript (.Name n p1) ib pos) s x := ⟨fun {M0 H0 M H σ} S Q k => by
  obtain ⟨a0, vs0, e0, hh0, _, pr0, _⟩ := S.putOwn (ys := xs) h0
  refine ⟨_, pe_ix ix_list (pe_var hi hv hd hcd) pe_w hs, .ref a0, e0, hib.run S _ fun w M2 H2 n2 r2 => ?_⟩
  obtain ⟨v', g1, g2⟩ := atI_paired pr0 h
  exact ⟨a0, vs0, i, v', rfl, r2, SqL.of (n2.ex _ _ hh0), g1, k v' M2 H2 n2 (s.ext n2.vx g2)⟩⟩
end
end TL

namespace Ea
open PySem L2 TL
def top (i : Nat) : Stmt := PySem.Challenge.pw_endsalike_k07_knots_from_below.main.body.getD i (.Pass ⟨0, 0, 0, 0⟩)
abbrev sreach_flags : Stmt := top 1
abbrev sknot_around : Stmt := top 2
abbrev sis_blocked : Stmt := top 3
abbrev snext_head : Stmt := top 4
abbrev sknot_list : Stmt := top 5
abbrev sknot_numbers : Stmt := top 6
abbrev sis_line_knot : Stmt := top 7
abbrev sline_flags : Stmt := top 8
abbrev sknots : Stmt := top 10
abbrev sknot_of : Stmt := top 11
abbrev sis_line : Stmt := top 12
abbrev spassing_kinds : Stmt := top 13
abbrev sfrozen : Stmt := top 15
abbrev sis_whole : Stmt := top 16
abbrev scEndsError : Stmt := top 18
abbrev scBadBook : Stmt := top 19
abbrev sBadBook__init__ : Stmt := inClass (top 19) 0
abbrev sis_target : Stmt := top 21
abbrev smoved_kinds : Stmt := top 22
abbrev scBook : Stmt := top 23
abbrev sBook__init__ : Stmt := inClass (top 23) 0
abbrev sBook__eq__ : Stmt := inClass (top 23) 1
abbrev sBook__len__ : Stmt := inClass (top 23) 2
abbrev sBook__iter__ : Stmt := inClass (top 23) 3
abbrev sBook__add__ : Stmt := inClass (top 23) 4
abbrev s_law_whole : Stmt := top 25
abbrev s_law_cell : Stmt := top 26
abbrev s_law_digits : Stmt := top 27
abbrev s_law_book_sizes : Stmt := top 28
abbrev s_law_target : Stmt := top 29
abbrev s_law_book : Stmt := top 30
abbrev s_law_tower_sizes : Stmt := top 31
abbrev s_law_tower : Stmt := top 32
abbrev s_law_tower_target : Stmt := top 33
abbrev s_law_tidy : Stmt := top 34
abbrev s_law_ring : Stmt := top 35
abbrev s_law_knit : Stmt := top 36
abbrev s_law_order : Stmt := top 37
abbrev s_law_named : Stmt := top 38
abbrev s_law_renumbered : Stmt := top 39
abbrev s_law_reach : Stmt := top 40
abbrev s_law_touches : Stmt := top 41
abbrev s_law_knots : Stmt := top 42
abbrev s_law_one_each : Stmt := top 43
abbrev s_law_sum : Stmt := top 44
abbrev s_law_flag : Stmt := top 45
abbrev s_law_number : Stmt := top 46
abbrev s_law_same_row : Stmt := top 47
abbrev s_law_same_rows : Stmt := top 48
abbrev s_law_broad : Stmt := top 49
abbrev s_law_drawn : Stmt := top 50
abbrev s_law_picked : Stmt := top 51
abbrev s_law_singles_are : Stmt := top 52
abbrev slaw : Stmt := top 53
def targetM (digit : Int) (k : Int) (many : Int) (j : Int) : Int :=
  let rest := (digit % (many + 3))
  let way := ((digit / (many + 3)) % 8)
  if (decide (way = 0)) = true then (rest - 3) else
  if (decide (5 < way)) = true then (k + (rest % (many - k))) else
  if ((decide (j = 0)) && ((decide (way < 4)) && ((decide (0 < k)) || (decide ((rest % 2) = 0))))) = true then k else
  if (decide (j = 0)) = true then (if (k + 1) < (many - 1) then (k + 1) else (many - 1)) else
  if (decide (way = 5)) = true then k else
  if ((decide (way = 1)) && (decide (rest < 3))) = true then (ix [(-2), (-1), (-3)] rest) else
  if (decide (k < (many - 1))) = true then ((k + 1) + (rest % ((many - k) - 1))) else
  (ix [k, (-2), k, (-1), (-2)] (rest % 5))
def sp_law_target (K : Fg) : Sp := spG K (fun i : Int × Int × Int × Int => [.vl tI i.1, .vl tI i.2.1, .vl tI i.2.2.1, .vl tI i.2.2.2]) (fun i => 0 ≤ i.2.1 ∧ i.2.1 < i.2.2.1 ∧ i.2.2.1 ≤ 1000) tI (fun i => targetM i.1 i.2.1 i.2.2.1 i.2.2.2)
theorem target_good (digit k many j : Int) (h0 : 0 ≤ k) (h1 : k < many) : -3 ≤ targetM digit k many j ∧ targetM digit k many j < many := by
  have a1 := Int.emod_nonneg digit (show many + 3 ≠ 0 by omega)
  have a2 := Int.emod_lt_of_pos digit (show 0 < many + 3 by omega)
  unfold targetM
  simp only
  generalize digit % (many + 3) = rest at a1 a2
  generalize digit / (many + 3) % 8 = way
  split
  · omega
  split
  · have b1 := Int.emod_nonneg rest (show many - k ≠ 0 by omega)
    have b2 := Int.emod_lt_of_pos rest (show 0 < many - k by omega)
    omega
  split
  · omega
  split
  · split <;> omega
  split
  · omega
  split
  · rename_i h
    simp only [Bool.and_eq_true, decide_eq_true_eq] at h
    have hm := ix_mem (xs := [(-2 : Int), -1, -3]) a1 (by simp; omega)
    simp only [List.mem_cons, List.not_mem_nil, or_false] at hm
    omega
  split
  · rename_i h
    simp only [decide_eq_true_eq] at h
    have b1 := Int.emod_nonneg rest (show many - k - 1 ≠ 0 by omega)
    have b2 := Int.emod_lt_of_pos rest (show 0 < many - k - 1 by omega)
    omega
  · have hm := ix_mem (xs := [k, (-2 : Int), k, -1, -2]) (i := rest % 5) (by omega) (by simp; omega)
    simp only [List.mem_cons, List.not_mem_nil, or_false] at hm
    omega
section
variable {P : Program} {w : World} {K : Fg} {mg : Str → Option Value} {base : Heap}
theorem sc_law_target : FnScope ["digit", "k", "many", "j", "rest", "way"] ["digit", "k", "many", "j"] (defScope s_law_target) := ⟨rfl, rfl, rfl, by decide +kernel, rfl, by decide +kernel, by decide +kernel⟩
theorem ok_law_target {f : Addr} {fd : FuncData} (F : Fun K "_law_target" "_law_target" s_law_target f fd) (b : Bi mg)  : FnOk P w K mg base CX0 1 f fd ["digit", "k", "many", "j"] (sp_law_target K) := by
  refine fn_ok F sc_law_target 2 rfl (fun _ => rfl) (fun cdv A outer s H E hr ⟨digit, k, many, j⟩ hp => ?_)
  dsimp only at hp ⊢
  have a1 := Int.emod_nonneg digit (show many + 3 ≠ 0 by omega)
  have a2 := Int.emod_lt_of_pos digit (show 0 < many + 3 by omega)
  refine b_cons (s_set 4 (e_mod (e_intI b.int (e_var 0)) (e_add (e_var 2) e_int) (by first | decide | omega)) ?_ sc_law_target.nd)
  refine b_cons (s_set 5 (e_mod (e_div (e_intI b.int (e_var 0)) (e_add (e_var 2) e_int) (by first | decide | omega)) e_int (by first | decide | omega)) ?_ sc_law_target.nd)
  refine b_cons (s_if (t_cv (e_var 5) e_int cv_eqI) (fun h1 => ?_) (fun h1 => ?_))
  · have h1p := h1; try simp only [Bool.and_eq_true, Bool.or_eq_true, Bool.and_eq_false_iff, Bool.or_eq_false_iff, Bool.not_eq_true', Bool.not_eq_false', decide_eq_true_eq, decide_eq_false_iff_not] at h1p
    refine b_cons (s_ret (e_sub (e_var 4) e_int) (fun M v r => ?_))
    exact ret_is r (by unfold targetM; dsimp only; rw [if_pos h1])
  · have h1p := h1; try simp only [Bool.and_eq_true, Bool.or_eq_true, Bool.and_eq_false_iff, Bool.or_eq_false_iff, Bool.not_eq_true', Bool.not_eq_false', decide_eq_true_eq, decide_eq_false_iff_not] at h1p
    refine b_nil ?_
    refine b_cons (s_if (t_cv (e_var 5) e_int cv_gt) (fun h2 => ?_) (fun h2 => ?_))
    · have h2p := h2; try simp only [Bool.and_eq_true, Bool.or_eq_true, Bool.and_eq_false_iff, Bool.or_eq_false_iff, Bool.not_eq_true', Bool.not_eq_false', decide_eq_true_eq, decide_eq_false_iff_not] at h2p
      refine b_cons (s_ret (e_add (e_var 1) (e_mod (e_intI b.int (e_var 4)) (e_sub (e_var 2) (e_var 1)) (by first | decide | omega))) (fun M v r => ?_))
      exact ret_is r (by unfold targetM; dsimp only; rw [if_neg (nt h1), if_pos h2])
    · have h2p := h2; try simp only [Bool.and_eq_true, Bool.or_eq_true, Bool.and_eq_false_iff, Bool.or_eq_false_iff, Bool.not_eq_true', Bool.not_eq_false', decide_eq_true_eq, decide_eq_false_iff_not] at h2p
      refine b_nil ?_
      refine b_cons (s_if (TW.toT (w_and (t_cv (e_var 3) e_int cv_eqI) (fun h => (w_and (t_cv (e_var 5) e_int cv_lt) (fun h => (w_and1 (TW.toT (w_or (t_cv (e_var 1) e_int cv_gt) (fun h => (w_or1 (t_cv (e_mod (e_intI b.int (e_var 4)) e_int (by first | decide | omega)) e_int cv_eqI))))))))))) (fun h3 => ?_) (fun h3 => ?_))
      · have h3p := h3; try simp only [Bool.and_eq_true, Bool.or_eq_true, Bool.and_eq_false_iff, Bool.or_eq_false_iff, Bool.not_eq_true', Bool.not_eq_false', decide_eq_true_eq, decide_eq_false_iff_not] at h3p
        refine b_cons (s_ret (e_var 1) (fun M v r => ?_))
        exact ret_is r (by unfold targetM; dsimp only; rw [if_neg (nt h1), if_neg (nt h2), if_pos h3])
      · have h3p := h3; try simp only [Bool.and_eq_true, Bool.or_eq_true, Bool.and_eq_false_iff, Bool.or_eq_false_iff, Bool.not_eq_true', Bool.not_eq_false', decide_eq_true_eq, decide_eq_false_iff_not] at h3p
        refine b_nil ?_
        refine b_cons (s_if (t_cv (e_var 3) e_int cv_eqI) (fun h4 => ?_) (fun h4 => ?_))
        · have h4p := h4; try simp only [Bool.and_eq_true, Bool.or_eq_true, Bool.and_eq_false_iff, Bool.or_eq_false_iff, Bool.not_eq_true', Bool.not_eq_false', decide_eq_true_eq, decide_eq_false_iff_not] at h4p
          refine b_cons (s_ret (e_min rfl b.min (e_sub (e_var 2) e_int) (e_add (e_var 1) e_int)) (fun M v r => ?_))
          exact ret_is r (by unfold targetM; dsimp only; rw [if_neg (nt h1), if_neg (nt h2), if_neg (nt h3), if_pos h4])
        · have h4p := h4; try simp only [Bool.and_eq_true, Bool.or_eq_true, Bool.and_eq_false_iff, Bool.or_eq_false_iff, Bool.not_eq_true', Bool.not_eq_false', decide_eq_true_eq, decide_eq_false_iff_not] at h4p
          refine b_nil ?_
          refine b_cons (s_if (t_cv (e_var 5) e_int cv_eqI) (fun h5 => ?_) (fun h5 => ?_))
          · have h5p := h5; try simp only [Bool.and_eq_true, Bool.or_eq_true, Bool.and_eq_false_iff, Bool.or_eq_false_iff, Bool.not_eq_true', Bool.not_eq_false', decide_eq_true_eq, decide_eq_false_iff_not] at h5p
            refine b_cons (s_ret (e_var 1) (fun M v r => ?_))
            exact ret_is r (by unfold targetM; dsimp only; rw [if_neg (nt h1), if_neg (nt h2), if_neg (nt h3), if_neg (nt h4), if_pos h5])
          · have h5p := h5; try simp only [Bool.and_eq_true, Bool.or_eq_true, Bool.and_eq_false_iff, Bool.or_eq_false_iff, Bool.not_eq_true', Bool.not_eq_false', decide_eq_true_eq, decide_eq_false_iff_not] at h5p
            refine b_nil ?_
            refine b_cons (s_if (TW.toT (w_and (t_cv (e_var 5) e_int cv_eqI) (fun h => (w_and1 (t_cv (e_var 4) e_int cv_lt))))) (fun h6 => ?_) (fun h6 => ?_))
            · have h6p := h6; try simp only [Bool.and_eq_true, Bool.or_eq_true, Bool.and_eq_false_iff, Bool.or_eq_false_iff, Bool.not_eq_true', Bool.not_eq_false', decide_eq_true_eq, decide_eq_false_iff_not] at h6p
              refine b_cons (s_ret (e_ixL (EL.toE (el_lst (eh_cons (e_neg e_int) (eh_cons (e_neg e_int) (eh_cons (e_neg e_int) eh_nil))))) (e_var 4) (atI_ix (by first | decide | omega | (simp only [List.length_cons, List.length_nil]; omega)) (by first | decide | omega | (simp only [List.length_cons, List.length_nil]; omega)))) (fun M v r => ?_))
              exact ret_is r (by unfold targetM; dsimp only; rw [if_neg (nt h1), if_neg (nt h2), if_neg (nt h3), if_neg (nt h4), if_neg (nt h5), if_pos h6])
            · have h6p := h6; try simp only [Bool.and_eq_true, Bool.or_eq_true, Bool.and_eq_false_iff, Bool.or_eq_false_iff, Bool.not_eq_true', Bool.not_eq_false', decide_eq_true_eq, decide_eq_false_iff_not] at h6p
              refine b_nil ?_
              refine b_cons (s_if (t_cv (e_var 1) (e_sub (e_var 2) e_int) cv_lt) (fun h7 => ?_) (fun h7 => ?_))
              · have h7p := h7; try simp only [Bool.and_eq_true, Bool.or_eq_true, Bool.and_eq_false_iff, Bool.or_eq_false_iff, Bool.not_eq_true', Bool.not_eq_false', decide_eq_true_eq, decide_eq_false_iff_not] at h7p
                refine b_cons (s_ret (e_add (e_add (e_var 1) e_int) (e_mod (e_intI b.int (e_var 4)) (e_sub (e_sub (e_var 2) (e_var 1)) e_int) (by first | decide | omega))) (fun M v r => ?_))
                exact ret_is r (by unfold targetM; dsimp only; rw [if_neg (nt h1), if_neg (nt h2), if_neg (nt h3), if_neg (nt h4), if_neg (nt h5), if_neg (nt h6), if_pos h7])
              · have h7p := h7; try simp only [Bool.and_eq_true, Bool.or_eq_true, Bool.and_eq_false_iff, Bool.or_eq_false_iff, Bool.not_eq_true', Bool.not_eq_false', decide_eq_true_eq, decide_eq_false_iff_not] at h7p
                refine b_nil ?_
                refine b_cons (s_ret (e_ixL (EL.toE (el_lst (eh_cons (e_var 1) (eh_cons (e_neg e_int) (eh_cons (e_var 1) (eh_cons (e_neg e_int) (eh_cons (e_neg e_int) eh_nil))))))) (e_mod (e_intI b.int (e_var 4)) e_int (by first | decide | omega)) (atI_ix (by first | decide | omega | (simp only [List.length_cons, List.length_nil]; omega)) (by first | decide | omega | (simp only [List.length_cons, List.length_nil]; omega)))) (fun M v r => ?_))
                exact ret_is r (by unfold targetM; dsimp only; rw [if_neg (nt h1), if_neg (nt h2), if_neg (nt h3), if_neg (nt h4), if_neg (nt h5), if_neg (nt h6), if_neg (nt h7)])
end

/-! _law_digits -/
structure DigS where
  row : List Int
  seed : Int
  rest : Int
  k : Int
def digStep (z : DigS) (s : Int) : DigS :=
  let seed := (z.seed * 48271 + 974711 * z.k + 12345) % 2147483647
  let twice := seed * (seed / 65537 + 3) % 2147483629
  if z.rest > 0 then ⟨z.row ++ [z.rest % s], seed, z.rest / s, z.k + 1⟩ else ⟨z.row ++ [twice / 19 % s], seed, z.rest, z.k + 1⟩
def digInit (cell : Int) : DigS := ⟨[], cell % 2147483629, if cell - 10 ^ 18 > 0 then cell - 10 ^ 18 else 0, 0⟩
def digRun (cell : Int) (sizes : List Int) : DigS := sizes.foldl digStep (digInit cell)
def digitsM (cell : Int) (sizes : List Int) : List Int := (digRun cell sizes).row
theorem digRun_snoc (cell : Int) (sizes : List Int) (s : Int) : digRun cell (sizes ++ [s]) = digStep (digRun cell sizes) s := by
  unfold digRun; rw [List.foldl_append]; rfl
theorem dig_inv (cell : Int) (sizes : List Int) : 0 ≤ (digRun cell sizes).seed ∧ (digRun cell sizes).seed < 2147483647 ∧ (digRun cell sizes).k = sizes.length ∧ (digRun cell sizes).row.length = sizes.length := by
  suffices h : ∀ (n : Nat) (sizes : List Int), sizes.length = n → 0 ≤ (digRun cell sizes).seed ∧ (digRun cell sizes).seed < 2147483647 ∧ (digRun cell sizes).k = sizes.length ∧ (digRun cell sizes).row.length = sizes.length from h _ sizes rfl
  intro n
  induction n with
  | zero =>
    intro sizes h
    have : sizes = [] := List.eq_nil_of_length_eq_zero h
    subst this
    refine ⟨?_, ?_, rfl, rfl⟩
    · show 0 ≤ cell % 2147483629; omega
    · show cell % 2147483629 < 2147483647; omega
  | succ n ih =>
    intro sizes h
    rcases List.eq_nil_or_concat sizes with e | ⟨l, s, e⟩
    · subst e; simp at h
    · rw [List.concat_eq_append] at e
      subst e
      have hl : l.length = n := by simp at h; exact h
      obtain ⟨h1, h2, h3, h4⟩ := ih l hl
      rw [digRun_snoc]
      unfold digStep
      simp only
      split <;> (refine ⟨?_, ?_, ?_, ?_⟩ <;> first | (show _ ≤ (_ % _ : Int); omega) | (show (_ % _ : Int) < _; omega) | simp [h3, h4])
theorem dig_good (cell : Int) : ∀ (sizes : List Int), (∀ s ∈ sizes, 0 < s) → Paired (fun d s : Int => 0 ≤ d ∧ d < s) (digitsM cell sizes) sizes := by
  intro sizes
  suffices h : ∀ (n : Nat) (sizes : List Int), sizes.length = n → (∀ s ∈ sizes, 0 < s) → Paired (fun d s : Int => 0 ≤ d ∧ d < s) (digitsM cell sizes) sizes from h _ sizes rfl
  intro n
  induction n with
  | zero =>
    intro sizes h _
    have : sizes = [] := List.eq_nil_of_length_eq_zero h
    subst this
    exact .nil
  | succ n ih =>
    intro sizes h hp
    rcases List.eq_nil_or_concat sizes with e | ⟨l, s, e⟩
    · subst e; simp at h
    · rw [List.concat_eq_append] at e
      subst e
      have hl : l.length = n := by simp at h; exact h
      have ih' := ih l hl (fun x hx => hp x (by simp [hx]))
      have hs : 0 < s := hp s (by simp)
      unfold digitsM at ih' ⊢
      rw [digRun_snoc]
      unfold digStep
      simp only
      split
      · exact paired_app ih' (.cons ⟨Int.emod_nonneg _ (by omega), Int.emod_lt_of_pos _ hs⟩ .nil)
      · exact paired_app ih' (.cons ⟨Int.emod_nonneg _ (by omega), Int.emod_lt_of_pos _ hs⟩ .nil)
theorem digits_len (cell : Int) (sizes : List Int) : (digitsM cell sizes).length = sizes.length := (dig_inv cell sizes).2.2.2
def sp_law_digits (K : Fg) : Sp := spG K (fun i : Int × List Int => [.vl tI i.1, .vl (tLst tI) i.2]) (fun i => i.2.length ≤ 3000 ∧ ∀ s ∈ i.2, 0 < s ∧ s < 1073741824) (tLst tI) (fun i => digitsM i.1 i.2)
section
variable {P : Program} {w : World} {K : Fg} {mg : Str → Option Value} {base : Heap}
theorem sc_law_digits : FnScope ["cell", "sizes", "row", "seed", "rest", "k", "twice"] ["cell", "sizes"] (defScope s_law_digits) := ⟨rfl, rfl, rfl, by decide +kernel, rfl, by decide +kernel, by decide +kernel⟩
theorem ok_law_digits {f : Addr} {fd : FuncData} (F : Fun K "_law_digits" "_law_digits" s_law_digits f fd) (b : Bi mg)  : FnOk P w K mg base CX0 1 f fd ["cell", "sizes"] (sp_law_digits K) := by
  refine fn_ok F sc_law_digits 5 rfl (fun _ => rfl) (fun cdv A outer s H E hr ⟨cell, sizes⟩ hp => ?_)
  dsimp only at hp ⊢
  obtain ⟨hz, hs⟩ := hp
  refine b_cons (s_own 2 (el_lst (s := tI) eh_nil) ?_ sc_law_digits.nd)
  refine b_cons (s_set 3 (e_mod (e_intI b.int (e_var 0)) e_int (by first | decide | omega)) ?_ sc_law_digits.nd)
  refine b_cons (s_set 4 (e_max rfl b.max e_int (e_sub (e_intI b.int (e_var 0)) (e_pow e_int e_int (by decide)))) ?_ sc_law_digits.nd)
  refine b_cons (s_forR 5 (fun m G' => G' = [.vl tI cell, .vl (tLst tI) sizes, .ow tI (digRun cell (sizes.take m)).row, .vl tI (digRun cell (sizes.take m)).seed, .vl tI (digRun cell (sizes.take m)).rest, .un, .un]) _ b.range (e_lenL b.len (e_var 1)) (by first | decide | omega) (Sub.refl _) rfl ?_ ?_ sc_law_digits.nd rfl)
  · rintro m _ hm rfl
    obtain ⟨x, hx, hax⟩ := atI_pos (xs := sizes) (i := (m : Int)) (by omega) hm
    rw [Int.toNat_natCast] at hx
    obtain ⟨hx0, hx1⟩ := hs x (List.mem_of_getElem? hx)
    obtain ⟨i1, i2, i3, i4⟩ := dig_inv cell (sizes.take m)
    have hl : (sizes.take m).length = m := by rw [List.length_take]; omega
    rw [hl] at i3 i4
    have st := digRun_snoc cell (sizes.take m) x
    rw [← take_snoc hx] at st
    refine b_cons (s_set 3 (e_mod (e_intI b.int (e_add (e_add (e_mulR (e_var 3) e_int (by decide)) (e_mulL e_int (e_var 5) (by decide))) e_int)) e_int (by first | decide | omega)) ?_ sc_law_digits.nd)
    refine b_cons (s_set 6 (e_mod (e_intI b.int (e_mulL (e_var 3) (e_add (e_div (e_var 3) e_int (by first | decide | omega)) e_int) (by first | decide | omega))) e_int (by first | decide | omega)) ?_ sc_law_digits.nd)
    refine b_cut (fun G' => Sub G' [.vl tI cell, .vl (tLst tI) sizes, .ow tI (digRun cell (sizes.take (m + 1))).row, .vl tI (digRun cell (sizes.take (m + 1))).seed, .vl tI (digRun cell (sizes.take (m + 1))).rest, .un, .un]) (s_if (t_cv (e_var 4) e_int cv_gt) (fun h => ?_) (fun h => ?_)) ?_
    · have h := of_decide_eq_true h
      refine b_cons (s_app 2 rfl (e_mod (e_intI b.int (e_var 4)) (e_ixL (e_var 1) (e_var 5) hax) hx0) (by omega) ?_)
      refine b_cons (s_set 4 (e_div (e_intI b.int (e_var 4)) (e_ixL (e_var 1) (e_var 5) hax) ⟨hx0, hx1⟩) ?_ sc_law_digits.nd)
      refine b_nil ?_
      rw [st]; unfold digStep; simp only [if_pos (show (digRun cell (sizes.take m)).rest > 0 from h), i3]
      exact .same (.same (.same (.same (.same (.un (.un .nil))))))
    · have h := of_decide_eq_false h
      refine b_cons (s_app 2 rfl (e_mod (e_div (e_var 6) e_int (by first | decide | omega)) (e_ixL (e_var 1) (e_var 5) hax) hx0) (by omega) ?_)
      refine b_nil ?_
      rw [st]; unfold digStep; simp only [if_neg (show ¬ (digRun cell (sizes.take m)).rest > 0 from h), i3]
      exact .same (.same (.same (.same (.same (.un (.un .nil))))))
    intro G' hG
    exact B.weak (b_nil rfl) hG
  · rintro _ rfl
    rw [Int.toNat_natCast, List.take_length]
    refine b_freeze 2 rfl ?_
    exact b_cons (s_ret (e_var 2) (fun M v r => r))
end

def bookSizesM (n e : Int) : List Int := ([3 * n] ++ (List.replicate n.toNat [2 * e + 2]).flatten) ++ (List.replicate (n * e).toNat [8 * (n + 3)]).flatten
def sp_law_book_sizes (K : Fg) : Sp := spG K (fun i : Int × Int => [.vl tI i.1, .vl tI i.2]) (fun i => (2 ≤ i.1 ∧ i.1 ≤ 40) ∧ 2 ≤ i.2 ∧ i.2 ≤ 20) (tLst tI) (fun i => bookSizesM i.1 i.2)
theorem flat_one {α : Type} (n : Nat) (x : α) : (List.replicate n [x]).flatten = List.replicate n x := by
  induction n with
  | zero => rfl
  | succ n ih => rw [List.replicate_succ, List.flatten_cons, ih, List.replicate_succ]; rfl
theorem bookSizes_eq (n e : Int) : bookSizesM n e = 3 * n :: (List.replicate n.toNat (2 * e + 2) ++ List.replicate (n * e).toNat (8 * (n + 3))) := by
  unfold bookSizesM; rw [flat_one, flat_one]; rfl
theorem mul_le_800 {n e : Int} (h0 : 0 ≤ n) (h1 : n ≤ 40) (h2 : 0 ≤ e) (h3 : e ≤ 20) : 0 ≤ n * e ∧ n * e ≤ 800 := by
  refine ⟨Int.mul_nonneg h0 h2, ?_⟩
  have a := Int.mul_le_mul_of_nonneg_right h1 h2
  omega
theorem bookSizes_ok {n e : Int} (h0 : 2 ≤ n) (h1 : n ≤ 40) (h2 : 2 ≤ e) (h3 : e ≤ 20) : (bookSizesM n e).length ≤ 3000 ∧ ∀ s ∈ bookSizesM n e, 0 < s ∧ s < 1073741824 := by
  have hm := mul_le_800 (by omega) h1 (by omega) h3
  rw [bookSizes_eq]
  refine ⟨?_, fun s hs => ?_⟩
  · simp only [List.length_cons, List.length_append, List.length_replicate]; omega
  · simp only [List.mem_cons, List.mem_append, List.mem_replicate] at hs
    omega
section
variable {P : Program} {w : World} {K : Fg} {mg : Str → Option Value} {base : Heap}
theorem sc_law_book_sizes : FnScope ["n", "e"] ["n", "e"] (defScope s_law_book_sizes) := ⟨rfl, rfl, rfl, by decide +kernel, rfl, by decide +kernel, by decide +kernel⟩
theorem ok_law_book_sizes {f : Addr} {fd : FuncData} (F : Fun K "_law_book_sizes" "_law_book_sizes" s_law_book_sizes f fd) (b : Bi mg)  : FnOk P w K mg base CX0 1 f fd ["n", "e"] (sp_law_book_sizes K) := by
  refine fn_ok F sc_law_book_sizes 0 rfl (fun _ => rfl) (fun cdv A outer s H E hr ⟨n, e⟩ hp => ?_)
  dsimp only at hp ⊢
  have hm := mul_le_800 (n := n) (e := e) (by omega) (by omega) (by omega) (by omega)
  refine b_cons (s_ret (EL.toE (el_cat (EL.toE (el_cat (EL.toE (el_lst (eh_cons (e_mulL e_int (e_var 0) (by decide)) eh_nil))) (EL.toE (el_rep (EL.toE (el_lst (eh_cons (e_add (e_mulL e_int (e_var 1) (by decide)) e_int) eh_nil))) (e_var 0) (by first | decide | omega) (by first | decide | omega | (simp only [List.length_cons, List.length_nil, List.length_append, rep_len, List.length_map, List.length_range, List.length_take, List.length_drop, List.length_replicate, List.length_set, Nat.zero_add, Nat.mul_one, Nat.one_mul]; omega)))) (by first | decide | omega | (simp only [List.length_cons, List.length_nil, List.length_append, rep_len, List.length_map, List.length_range, List.length_take, List.length_drop, List.length_replicate, List.length_set, Nat.zero_add, Nat.mul_one, Nat.one_mul]; omega)))) (EL.toE (el_rep (EL.toE (el_lst (eh_cons (e_mulL e_int (e_add (e_var 0) e_int) (by decide)) eh_nil))) (e_mulL (e_var 0) (e_var 1) (by first | decide | omega)) (by first | decide | omega) (by first | decide | omega | (simp only [List.length_cons, List.length_nil, List.length_append, rep_len, List.length_map, List.length_range, List.length_take, List.length_drop, List.length_replicate, List.length_set, Nat.zero_add, Nat.mul_one, Nat.one_mul]; omega)))) (by first | decide | omega | (simp only [List.length_cons, List.length_nil, List.length_append, rep_len, List.length_map, List.length_range, List.length_take, List.length_drop, List.length_replicate, List.length_set, Nat.zero_add, Nat.mul_one, Nat.one_mul]; omega)))) (fun M v r => ?_))
  exact r
end

def bookMany (row : List Int) (n : Int) : Int := if decide (n ≤ ix row 0) = true then 2 + ix row 0 % (n - 1) else 1 + ix row 0
def bookSize (row : List Int) (e k : Int) : Int :=
  let a := ix row (1 + k)
  let c := if decide (e < a) = true then a - e else a
  if decide (e < c) = true then 2 else c
def bookKind (row : List Int) (n e k : Int) : List Int := (List.range (bookSize row e k).toNat).map fun j : Nat => targetM (ix row (1 + n + k * e + (j : Int))) k (bookMany row n) (j : Int)
def bookM (row : List Int) (n e : Int) : List (List Int) := (List.range (bookMany row n).toNat).map fun k : Nat => bookKind row n e (k : Int)
def GoodRow (row : List Int) (n e : Int) : Prop := (row.length : Int) = 1 + n + n * e ∧ (0 ≤ ix row 0 ∧ ix row 0 < 3 * n) ∧ ∀ k : Int, 0 ≤ k → k < n → 0 ≤ ix row (1 + k) ∧ ix row (1 + k) < 2 * e + 2
def sp_law_book (K : Fg) : Sp := spG K (fun i : List Int × Int × Int => [.vl (tLst tI) i.1, .vl tI i.2.1, .vl tI i.2.2]) (fun i => ((2 ≤ i.2.1 ∧ i.2.1 ≤ 40) ∧ 2 ≤ i.2.2 ∧ i.2.2 ≤ 20) ∧ GoodRow i.1 i.2.1 i.2.2) (tTup (tTup tI)) (fun i => bookM i.1 i.2.1 i.2.2)
theorem bookMany_b {row : List Int} {n e : Int} (hn : 2 ≤ n) (h : GoodRow row n e) : 1 ≤ bookMany row n ∧ bookMany row n ≤ n := by
  obtain ⟨_, ⟨h1, h2⟩, _⟩ := h
  unfold bookMany
  have a1 := Int.emod_nonneg (ix row 0) (show n - 1 ≠ 0 by omega)
  have a2 := Int.emod_lt_of_pos (ix row 0) (show 0 < n - 1 by omega)
  split
  · omega
  · rename_i hh; simp only [decide_eq_true_eq] at hh; omega
theorem bookSize_b {row : List Int} {n e k : Int} (he : 2 ≤ e) (h : GoodRow row n e) (h0 : 0 ≤ k) (h1 : k < n) : 0 ≤ bookSize row e k ∧ bookSize row e k ≤ e := by
  obtain ⟨_, _, h⟩ := h
  obtain ⟨a, c⟩ := h k h0 h1
  unfold bookSize
  simp only [decide_eq_true_eq]
  repeat' split
  all_goals omega
/-- a book that is right -/
structure Good (ks : List (List Int)) (n e : Int) : Prop where
  pos : 0 < ks.length
  len : (ks.length : Int) ≤ n
  row : ∀ r ∈ ks, (r.length : Int) ≤ e ∧ ∀ t ∈ r, -3 ≤ t ∧ t < ks.length
theorem bookM_good {row : List Int} {n e : Int} (hn : 2 ≤ n) (he : 2 ≤ e) (h : GoodRow row n e) : Good (bookM row n e) n e := by
  have hm := bookMany_b hn h
  have hl : (bookM row n e).length = (bookMany row n).toNat := by unfold bookM; simp
  refine ⟨by rw [hl]; omega, by rw [hl]; omega, fun r hr => ?_⟩
  unfold bookM at hr
  obtain ⟨k, hk, rfl⟩ := List.mem_map.mp hr
  have hk' := List.mem_range.mp hk
  have hs := bookSize_b he h (k := (k : Int)) (by omega) (by omega)
  refine ⟨?_, fun t ht => ?_⟩
  · unfold bookKind; simp only [List.length_map, List.length_range]; omega
  · unfold bookKind at ht
    obtain ⟨j, hj, rfl⟩ := List.mem_map.mp ht
    have := target_good (ix row (1 + n + (k : Int) * e + (j : Int))) k (bookMany row n) j (by omega) (by omega)
    rw [hl]; omega
theorem Good.mono {ks : List (List Int)} {n e n' e' : Int} (h : Good ks n e) (h1 : n ≤ n') (h2 : e ≤ e') : Good ks n' e' := ⟨h.pos, by have := h.len; omega, fun r hr => ⟨by have := (h.row r hr).1; omega, (h.row r hr).2⟩⟩
theorem ix_paired {F : Int → Int → Prop} {xs ys : List Int} (p : Paired F xs ys) {i : Int} (h0 : 0 ≤ i) (h1 : i < ys.length) : F (ix xs i) (ix ys i) := by
  have hy := ix_pos (xs := ys) h0 h1
  obtain ⟨x, q, f⟩ := paired_get p hy
  have hx := ix_pos (xs := xs) h0 (by rw [p.length]; exact h1)
  rw [hx] at q; cases q; exact f
theorem ix_getElem {α : Type} [Inhabited α] {xs : List α} {i : Int} {x : α} (h0 : 0 ≤ i) (h : xs[i.toNat]? = some x) : ix xs i = x := by
  have hl := (List.getElem?_eq_some_iff.mp h).1
  have := ix_pos (xs := xs) h0 (by omega)
  rw [h] at this; exact (Option.some.inj this).symm
theorem digits_goodRow {n e : Int} (c : Int) (h0 : 2 ≤ n) (h1 : n ≤ 40) (h2 : 2 ≤ e) (h3 : e ≤ 20) : GoodRow (digitsM c (bookSizesM n e)) n e := by
  have hm := mul_le_800 (n := n) (e := e) (by omega) h1 (by omega) h3
  have ok := bookSizes_ok h0 h1 h2 h3
  have p := dig_good c (bookSizesM n e) (fun s hs => (ok.2 s hs).1)
  have hl : ((bookSizesM n e).length : Int) = 1 + n + n * e := by
    rw [bookSizes_eq]; simp only [List.length_cons, List.length_append, List.length_replicate]; omega
  refine ⟨by rw [digits_len]; exact hl, ?_, fun k k0 k1 => ?_⟩
  · have := ix_paired p (i := 0) (by omega) (by omega)
    have e0 : ix (bookSizesM n e) 0 = 3 * n := by rw [bookSizes_eq]; exact ix_getElem (by omega) rfl
    rw [e0] at this; exact this
  · have := ix_paired p (i := 1 + k) (by omega) (by omega)
    have e0 : ix (bookSizesM n e) (1 + k) = 2 * e + 2 := by
      apply ix_getElem (by omega)
      rw [bookSizes_eq, show (1 + k).toNat = k.toNat + 1 by omega, List.getElem?_cons_succ, List.getElem?_append_left (by rw [List.length_replicate]; omega), List.getElem?_replicate, if_pos (by omega)]
    rw [e0] at this; exact this
section
variable {P : Program} {w : World} {K : Fg} {mg : Str → Option Value} {base : Heap}
theorem sc_law_book : FnScope ["row", "n", "e", "many", "kinds", "k", "size", "j"] ["row", "n", "e"] (defScope s_law_book) := ⟨rfl, rfl, rfl, by decide +kernel, rfl, by decide +kernel, by decide +kernel⟩
theorem ok_law_book {f : Addr} {fd : FuncData} (F : Fun K "_law_book" "_law_book" s_law_book f fd) (b : Bi mg) (C_law_target : Fn P w K mg base CX0 1 "_law_target" ["digit", "k", "many", "j"] (sp_law_target K)) : FnOk P w K mg base CX0 2 f fd ["row", "n", "e"] (sp_law_book K) := by
  refine fn_ok F sc_law_book 5 rfl (fun _ => rfl) (fun cdv A outer s H E hr ⟨row, n, e⟩ hp => ?_)
  dsimp only at hp ⊢
  obtain ⟨⟨⟨n0, n1⟩, e0, e1⟩, hG⟩ := hp
  have hG' := hG
  obtain ⟨hl, hr0, hrk⟩ := hG'
  have hmul := mul_le_800 (n := n) (e := e) (by omega) (by omega) (by omega) (by omega)
  have hM := bookMany_b n0 hG
  refine b_cons (s_set 3 (e_add e_int (e_ixL (e_var 0) e_int (atI_ix (by first | decide | omega | (simp only [List.length_cons, List.length_nil]; omega)) (by first | decide | omega | (simp only [List.length_cons, List.length_nil]; omega))))) ?_ sc_law_book.nd)
  refine b_cons (s_ifSet 3 rfl (t_cv (e_ixL (e_var 0) e_int (atI_ix (by first | decide | omega | (simp only [List.length_cons, List.length_nil]; omega)) (by first | decide | omega | (simp only [List.length_cons, List.length_nil]; omega)))) (e_var 1) cv_ge) (fun h => (e_add e_int (e_mod (e_intI b.int (e_ixL (e_var 0) e_int (atI_ix (by first | decide | omega | (simp only [List.length_cons, List.length_nil]; omega)) (by first | decide | omega | (simp only [List.length_cons, List.length_nil]; omega))))) (e_sub (e_var 1) e_int) (by first | decide | omega)))) ?_ sc_law_book.nd)
  refine b_cons (s_own 4 (el_lst (s := (tTup tI)) eh_nil) ?_ sc_law_book.nd)
  refine b_cons (s_forR 5 (fun m G' => G' = [.vl (tLst tI) row, .vl tI n, .vl tI e, .vl tI (bookMany row n), .ow (tTup tI) ((List.range m).map fun k : Nat => bookKind row n e (k : Int)), .un, .un, .un]) _ b.range (e_var 3) (by show -4611686018427387904 ≤ bookMany row n ∧ bookMany row n < 4611686018427387904; omega) (Sub.refl _) rfl ?_ ?_ sc_law_book.nd rfl)
  · rintro m _ hm rfl
    have hm' : (m : Int) < bookMany row n := hm
    have hs := bookSize_b e0 hG (k := (m : Int)) (by omega) (by omega)
    have hk := hrk m (by omega) (by omega)
    have hme : (m : Int) * e + e ≤ n * e := by
      have := Int.mul_le_mul_of_nonneg_right (show (m : Int) + 1 ≤ n by omega) (show 0 ≤ e by omega)
      rw [Int.add_mul] at this; omega
    have hme0 : 0 ≤ (m : Int) * e := Int.mul_nonneg (by omega) (by omega)
    refine b_cons (s_set 6 (e_ixL (e_var 0) (e_add e_int (e_var 5)) (atI_ix (by first | decide | omega | (simp only [List.length_cons, List.length_nil]; omega)) (by first | decide | omega | (simp only [List.length_cons, List.length_nil]; omega)))) ?_ sc_law_book.nd)
    refine b_cons (s_ifSet 6 rfl (t_cv (e_var 6) (e_var 2) cv_gt) (fun h => (e_sub (e_var 6) (e_var 2))) ?_ sc_law_book.nd)
    refine b_cons (s_ifSet 6 rfl (t_cv (e_var 6) (e_var 2) cv_gt) (fun h => e_int) ?_ sc_law_book.nd)
    refine b_cons (s_app 4 rfl (e_tupL b.tuple (EL.toE (el_lc (lc_R (own := [("j", 7)]) b.range (e_var 6) (by show -1000000 ≤ bookSize row e m ∧ bookSize row e m ≤ 1000000; omega) 7 (fun s0 H C cl fp j hx => have hj : (j : Int) < bookSize row e m := hx; (e_call C_law_target (hr.mono (by decide)) (_, _, _, _) (ea_cons (e_ixL (e_var 0) (e_add (e_add (e_add e_int (e_var 1)) (e_mulL (e_var 5) (e_var 2) (by first | decide | omega))) (e_var 7)) (atI_ix (by first | decide | omega | (simp only [List.length_cons, List.length_nil]; omega)) (by first | decide | omega | (simp only [List.length_cons, List.length_nil]; omega)))) (ea_cons (e_var 5) (ea_cons (e_var 3) (ea_cons (e_var 7) ea_nil)))) (by exact ⟨by show (0 : Int) ≤ m; omega, hm', by show bookMany row n ≤ 1000; omega⟩))) (blkOk_by (N := ["row", "n", "e", "many", "kinds", "k", "size", "j"]) (sc := defScope s_law_book) (by decide +kernel)) (fun _ _ _ _ _ => pg_name sc_law_book.nd rfl (by first | exact Or.inl rfl | exact Or.inr rfl))) rfl sc_law_book.nd))) (by first | decide | omega | (simp only [List.length_cons, List.length_nil, List.length_append, rep_len, List.length_map, List.length_range, List.length_take, List.length_drop, List.length_replicate, List.length_set, Nat.zero_add, Nat.mul_one, Nat.one_mul]; omega)) ?_)
    refine B.weak (b_nil rfl) ?_
    rw [List.range_succ, List.map_append]
    exact .same (.same (.same (.same (.same (.un (.un (.un .nil)))))))
  · rintro _ rfl
    exact b_cons (s_ret (e_read 4 rfl (imm_T (imm_T imm_I)) (e_tupL b.tuple (e_var 4))) (fun M v r => r))
end

theorem ixSome {α : Type} [Inhabited α] {xs : List α} {i : Int} (h0 : 0 ≤ i) (h1 : i < xs.length) : xs[i.toNat]? = some (ix xs i) := ix_pos h0 h1
theorem ixNp {n : Nat} {i : Int} (h0 : 0 ≤ i) (h1 : i < n) : ixN n i = some i.toNat := by
  unfold ixN
  rw [if_pos h0, if_pos h1]

/-! ways in a book of kinds -/
inductive Pth (E : Nat → Nat → Prop) (m : Nat) : Nat → Nat → Prop
  | one {a b : Nat} : E a b → Pth E m a b
  | step {a c b : Nat} : E a c → c < m → Pth E m c b → Pth E m a b
theorem Pth.zero {E : Nat → Nat → Prop} {a b : Nat} : Pth E 0 a b ↔ E a b := ⟨fun h => by
  cases h with
  | one h => exact h
  | step _ h _ => exact absurd h (Nat.not_lt_zero _), .one⟩
theorem Pth.mono {E : Nat → Nat → Prop} {m n : Nat} (h : m ≤ n) {a b : Nat} (p : Pth E m a b) : Pth E n a b := by
  induction p with
  | one e => exact .one e
  | step e l _ ih => exact .step e (Nat.lt_of_lt_of_le l h) ih
theorem Pth.trans {E : Nat → Nat → Prop} {m : Nat} {a c b : Nat} (p : Pth E m a c) (hc : c < m) (q : Pth E m c b) : Pth E m a b := by
  induction p with
  | one e => exact .step e hc q
  | step e l _ ih => exact .step e l (ih hc q)
theorem Pth.succ {E : Nat → Nat → Prop} {m a b : Nat} : Pth E (m + 1) a b ↔ Pth E m a b ∨ (Pth E m a m ∧ Pth E m m b) := by
  constructor
  · intro p
    induction p with
    | one e => exact .inl (.one e)
    | @step a c b e l _ ih =>
      by_cases h : c < m
      · rcases ih with q | ⟨q, r⟩
        · exact .inl (.step e h q)
        · exact .inr ⟨.step e h q, r⟩
      · have : c = m := by omega
        subst this
        rcases ih with q | ⟨q, r⟩
        · exact .inr ⟨.one e, q⟩
        · exact .inr ⟨.one e, r⟩
  · rintro (p | ⟨p, q⟩)
    · exact p.mono (Nat.le_succ _)
    · exact (p.mono (Nat.le_succ _)).trans (Nat.lt_succ_self _) (q.mono (Nat.le_succ _))
theorem Pth.self {E : Nat → Nat → Prop} {m b : Nat} : Pth E (m + 1) m b ↔ Pth E m m b := by
  rw [Pth.succ]
  exact ⟨fun h => h.elim id And.right, .inl⟩
def edge (kinds : List (List Int)) (a b : Nat) : Prop := (b : Int) ∈ ix kinds (a : Int)
open Classical in
noncomputable def rowP (kinds : List (List Int)) (m a : Nat) : List Bool := (List.range kinds.length).map fun b => decide (Pth (edge kinds) m a b)
noncomputable def tabP (kinds : List (List Int)) (m : Nat) : List (List Bool) := (List.range kinds.length).map (rowP kinds m)
/-- kind b is reached from kind a -/
def Rch (kinds : List (List Int)) (a b : Nat) : Prop := Pth (edge kinds) kinds.length a b
noncomputable def reachTab (kinds : List (List Int)) : List (List Bool) := tabP kinds kinds.length
theorem ix_range {α : Type} [Inhabited α] {n : Nat} {f : Nat → α} {i : Nat} (h : i < n) : ix ((List.range n).map f) (i : Int) = f i := by
  apply ix_getElem (by omega)
  rw [Int.toNat_natCast, List.getElem?_map, List.getElem?_range h]; rfl
theorem set_range {α : Type} {n : Nat} {f g : Nat → α} {k : Nat} (hk : k < n) (h : ∀ i, i < n → i ≠ k → g i = f i) : ((List.range n).map f).set k (g k) = (List.range n).map g := by
  apply List.ext_getElem?
  intro i
  by_cases hi : i < n
  · by_cases z : k = i
    · subst z
      rw [List.getElem?_set_self (by simpa using hk), List.getElem?_map, List.getElem?_range hk]; rfl
    · rw [List.getElem?_set_ne z, List.getElem?_map, List.getElem?_map, List.getElem?_range hi]
      show some (f i) = some (g i)
      rw [h i hi (Ne.symm z)]
  · rw [List.getElem?_eq_none (by simp; omega), List.getElem?_eq_none (by simp; omega)]
open Classical in
theorem rowP_len (kinds : List (List Int)) (m a : Nat) : (rowP kinds m a).length = kinds.length := by unfold rowP; simp

def cntF : List Bool → Nat
  | [] => 0
  | b :: bs => (if b = true then 0 else 1) + cntF bs
theorem cntF_set : ∀ {bs : List Bool} {i : Nat}, bs[i]? = some false → cntF (bs.set i true) + 1 = cntF bs
  | [], i, h => by simp at h
  | b :: bs, 0, h => by
    simp at h
    subst h
    show (if true = true then 0 else 1) + cntF bs + 1 = (if false = true then 0 else 1) + cntF bs
    simp; omega
  | b :: bs, i + 1, h => by
    have := cntF_set (bs := bs) (i := i) (by simpa using h)
    show (if b = true then 0 else 1) + cntF (bs.set i true) + 1 = (if b = true then 0 else 1) + cntF bs
    omega
theorem cntF_rep : ∀ n : Nat, cntF (List.replicate n false) = n
  | 0 => rfl
  | n + 1 => by
    rw [List.replicate_succ]
    show (if false = true then 0 else 1) + cntF (List.replicate n false) = n + 1
    rw [cntF_rep n]; simp; omega
theorem ix_rep {n j : Nat} (h : j < n) : ix (List.replicate n false) (j : Int) = false := by
  apply ix_getElem (by omega)
  rw [Int.toNat_natCast, List.getElem?_replicate, if_pos h]
theorem bools_ext {xs ys : List Bool} (h : xs.length = ys.length) (e : ∀ i : Nat, i < xs.length → ix xs (i : Int) = ix ys (i : Int)) : xs = ys := by
  apply List.ext_getElem?
  intro i
  by_cases hi : i < xs.length
  · have a := ixSome (xs := xs) (i := (i : Int)) (by omega) (by omega)
    have b := ixSome (xs := ys) (i := (i : Int)) (by omega) (by omega)
    rw [Int.toNat_natCast] at a b
    rw [a, b, e i hi]
  · rw [List.getElem?_eq_none (by omega), List.getElem?_eq_none (by omega)]
theorem ix_setB {xs : List Bool} {i j : Nat} {c : Bool} (hi : i < xs.length) (hj : j < xs.length) : ix (xs.set i c) (j : Int) = if i = j then c else ix xs (j : Int) := by
  apply ix_getElem (by omega)
  rw [Int.toNat_natCast, List.getElem?_set]
  split
  · first | rfl | (rw [if_pos hi])
  · have a := ixSome (xs := xs) (i := (j : Int)) (by omega) (by omega)
    rw [Int.toNat_natCast] at a
    exact a
/-- flags and those still waiting, `here` being looked at, its first targets ts done -/
structure Flg (kinds : List (List Int)) (k : Nat) (fl : List Bool) (wt : List Int) (done : Nat → Prop) (ts : List Int) : Prop where
  len : fl.length = kinds.length
  rch : ∀ j : Nat, j < kinds.length → ix fl (j : Int) = true → Rch kinds k j
  wts : ∀ x ∈ wt, ∃ j : Nat, x = (j : Int) ∧ j < kinds.length ∧ (j = k ∨ ix fl (j : Int) = true)
  cls : ∀ a b : Nat, a < kinds.length → b < kinds.length → (a = k ∨ ix fl (a : Int) = true) → (a : Int) ∉ wt → done a → edge kinds a b → ix fl (b : Int) = true
  tgt : ∀ t ∈ ts, 0 ≤ t → ix fl t = true
theorem edge_lt {kinds : List (List Int)} {n e : Int} (hg : Good kinds n e) {a b : Nat} (ha : a < kinds.length) (h : edge kinds a b) : b < kinds.length := by
  have := (hg.row _ (ix_mem (xs := kinds) (i := (a : Int)) (by omega) (by omega))).2 _ h
  omega
theorem Flg.fin {kinds : List (List Int)} {n e : Int} {k : Nat} {fl : List Bool} (hg : Good kinds n e) (hk : k < kinds.length) (h : Flg kinds k fl [] (fun _ => True) []) : fl = rowP kinds kinds.length k := by
  classical
  have key : ∀ {a b : Nat}, Pth (edge kinds) kinds.length a b → a < kinds.length → (a = k ∨ ix fl (a : Int) = true) → ix fl (b : Int) = true := by
    intro a b p
    induction p with
    | one e1 => intro ha hf; exact h.cls _ _ ha (edge_lt hg ha e1) hf (by simp) trivial e1
    | step e1 l _ ih => intro ha hf; exact ih l (.inr (h.cls _ _ ha l hf (by simp) trivial e1))
  refine bools_ext (by rw [h.len, rowP_len]) fun i hi => ?_
  rw [h.len] at hi
  have e2 : ix (rowP kinds kinds.length k) (i : Int) = decide (Pth (edge kinds) kinds.length k i) := by unfold rowP; rw [ix_range hi]
  rw [e2]
  by_cases q : ix fl (i : Int) = true
  · rw [q]; exact (decide_eq_true (h.rch i hi q)).symm
  · have : ¬ Pth (edge kinds) kinds.length k i := fun p => q (key p hk (.inl rfl))
    rw [decide_eq_false this]; simpa using q
noncomputable def spreach_flags (K : Fg) : Sp := spG K (fun i : List (List Int) × Int => [.vl (tTup (tTup tI)) i.1, .vl tI i.2]) (fun i => Good i.1 1000 1000 ∧ 0 ≤ i.2 ∧ i.2 < i.1.length) (tLst tB) (fun i => rowP i.1 i.1.length i.2.toNat)
section
variable {P : Program} {w : World} {K : Fg} {mg : Str → Option Value} {base : Heap}
theorem sc_reach_flags : FnScope ["kinds", "kind", "flags", "waiting", "here", "target"] ["kinds", "kind"] (defScope sreach_flags) := ⟨rfl, rfl, rfl, by decide +kernel, rfl, by decide +kernel, by decide +kernel⟩
theorem okreach_flags {f : Addr} {fd : FuncData} (F : Fun K "reach_flags" "reach_flags" sreach_flags f fd) (b : Bi mg) : FnOk P w K mg base CX0 1 f fd ["kinds", "kind"] (spreach_flags K) := by
  refine fn_ok F sc_reach_flags 4 rfl (fun _ => rfl) (fun cdv A outer s H E hr ⟨kinds, kind⟩ hp => ?_)
  dsimp only at hp ⊢
  obtain ⟨hg, k0, k1⟩ := hp
  have hlen := hg.len
  obtain ⟨k, rfl⟩ : ∃ k : Nat, kind = (k : Int) := ⟨kind.toNat, by omega⟩
  have hk : k < kinds.length := by omega
  rw [Int.toNat_natCast]
  refine b_cons (s_own 2 (el_rep (EL.toE (el_lst (eh_cons e_bl eh_nil))) (e_lenT b.len (e_var 0)) (by omega) (by simp only [List.length_cons, List.length_nil]; omega)) ?_ sc_reach_flags.nd)
  have fr : ∀ n : Nat, (List.replicate n [false]).flatten = List.replicate n false := fun n => by
    induction n with
    | zero => rfl
    | succ n ih => rw [List.replicate_succ, List.flatten_cons, ih]; rfl
  rw [fr, Int.toNat_natCast]
  refine b_cons (s_own 3 (el_lst (eh_cons (e_var 1) eh_nil)) ?_ sc_reach_flags.nd)
  refine b_cons (s_while (fun m G' => ∃ fl wt, (Flg kinds k fl wt (fun _ => True) [] ∧ m = 2 * cntF fl + wt.length ∧ m ≤ 2 * kinds.length + 1) ∧ G' = [.vl (tTup (tTup tI)) kinds, .vl tI (k : Int), .ow tB fl, .ow tI wt, .un, .un]) _ _ (Sub.refl _) ⟨List.replicate kinds.length false, [(k : Int)], ⟨⟨List.length_replicate, fun j hj h => ?_, fun x hx => ⟨k, List.mem_singleton.mp hx, hk, .inl rfl⟩, fun a c ha hc h hn _ e1 => ?_, fun t ht => by cases ht⟩, rfl, by rw [cntF_rep]; simp⟩, rfl⟩ ?_)
  · rw [ix_rep hj] at h; cases h
  · rcases h with z | z
    · exact absurd (by rw [z]; simp) hn
    · rw [ix_rep ha] at z; cases z
  · rintro m _ ⟨fl, wt, ⟨hF, hm, hmb⟩, rfl⟩
    refine ⟨_, t_read 3 rfl (t_lst (e_var 3)), fun h => ?_, fun h => ?_⟩
    · rcases List.eq_nil_or_concat wt with z | ⟨ws, x, z⟩
      · subst z; cases h
      rw [List.concat_eq_append] at z
      subst z
      obtain ⟨here, rfl, hh, hhf⟩ := hF.wts x (by simp)
      have hrow := hg.row _ (ix_mem (xs := kinds) (i := (here : Int)) (by omega) (by omega))
      rw [List.length_append, List.length_singleton] at hm
      refine b_cons (s_pop 4 3 (by decide) rfl ?_ sc_reach_flags.nd)
      refine b_cons (s_forT 5 (fun j G' => ∃ fl' wt', (Flg kinds k fl' wt' (fun a => a ≠ here) ((ix kinds (here : Int)).take j) ∧ 2 * cntF fl' + wt'.length ≤ 2 * cntF fl + ws.length ∧ (here = k ∨ ix fl' (here : Int) = true)) ∧ G' = [.vl (tTup (tTup tI)) kinds, .vl tI (k : Int), .ow tB fl', .ow tI wt', .vl tI (here : Int), .un]) _ (e_ixT (e_var 0) (e_var 4) (atI_ix (by omega) (by omega))) (Sub.refl _) ⟨fl, ws, ⟨⟨hF.len, hF.rch, fun x hx => hF.wts x (List.mem_append_left _ hx), fun a c ha hc h1 h2 h3 e1 => hF.cls a c ha hc h1 (fun z => ?_) trivial e1, fun t ht => by simp at ht⟩, Nat.le_refl _, hhf⟩, rfl⟩ ?_ ?_ sc_reach_flags.nd rfl)
      · rcases List.mem_append.mp z with y | y
        · exact h2 y
        · exact h3 (by have := List.mem_singleton.mp y; omega)
      · rintro j t _ ht ⟨fl', wt', ⟨hF', hms, hhf'⟩, rfl⟩
        rw [take_snoc ht]
        have htm := List.mem_of_getElem? ht
        have htr := hrow.2 t htm
        have hl' := hF'.len
        refine b_cut (fun G' => ∃ fl' wt' a, (Flg kinds k fl' wt' (fun a => a ≠ here) ((ix kinds (here : Int)).take j ++ [t]) ∧ 2 * cntF fl' + wt'.length ≤ 2 * cntF fl + ws.length ∧ (here = k ∨ ix fl' (here : Int) = true)) ∧ G' = [.vl (tTup (tTup tI)) kinds, .vl tI (k : Int), .ow tB fl', .ow tI wt', .vl tI (here : Int), a]) (s_if (t_read 2 rfl (TW.toT (w_and (t_cv (e_var 5) e_int cv_ge) (fun h => w_and1 (t_not (t_val (e_ixL (e_var 2) (e_var 5) (atI_ix (by have := of_decide_eq_true h; omega) (by omega))))))))) (fun h => ?_) (fun h => ?_)) ?_
        · obtain ⟨q1, q2⟩ := (Bool.and_eq_true _ _).mp h
          have q1 := of_decide_eq_true q1
          have q2 : ix fl' t = false := by simpa using q2
          obtain ⟨u, rfl⟩ : ∃ u : Nat, t = (u : Int) := ⟨t.toNat, by omega⟩
          have hu : u < kinds.length := by omega
          have hus : fl'[u]? = some false := by
            have := ixSome (xs := fl') (i := (u : Int)) (by omega) (by omega)
            rw [Int.toNat_natCast, q2] at this; exact this
          have hc := cntF_set hus
          have hed : edge kinds here u := htm
          refine b_cons (s_seti 2 (m := u) rfl e_bl (e_var 5) (by rw [ixNp (by omega) (by omega), Int.toNat_natCast]) ?_)
          refine b_cons (s_app 3 rfl (e_var 5) (by omega) ?_)
          have hs : ∀ i : Nat, i < kinds.length → ix (fl'.set u true) (i : Int) = if u = i then true else ix fl' (i : Int) := fun i hi => ix_setB (by omega) (by omega)
          have keep : ∀ i : Nat, i < kinds.length → ix fl' (i : Int) = true → ix (fl'.set u true) (i : Int) = true := fun i hi q => by
            rw [hs i hi]; split
            · rfl
            · exact q
          have new : ix (fl'.set u true) (u : Int) = true := by rw [hs u hu, if_pos rfl]
          refine b_nil ⟨_, _, _, ⟨⟨by rw [List.length_set]; exact hl', fun i hi q => ?_, fun x hx => ?_, fun a c ha hc' h1 h2 h3 e1 => ?_, fun t' ht' h0 => ?_⟩, by rw [List.length_append, List.length_singleton]; omega, hhf'.imp id (keep here hh)⟩, rfl⟩
          · rw [hs i hi] at q
            by_cases z : u = i
            · subst z
              rcases hhf' with y | y
              · subst y; exact .one hed
              · exact (hF'.rch here hh y).trans hh (.one hed)
            · rw [if_neg z] at q; exact hF'.rch i hi q
          · rcases List.mem_append.mp hx with y | y
            · obtain ⟨i, e1, e2, e3⟩ := hF'.wts x y
              exact ⟨i, e1, e2, e3.imp id (keep i e2)⟩
            · exact ⟨u, List.mem_singleton.mp y, hu, .inr new⟩
          · have hau : ¬ u = a := fun z => h2 (List.mem_append_right _ (by rw [z]; simp))
            refine keep c hc' (hF'.cls a c ha hc' (h1.imp id fun y => ?_) (fun z => h2 (List.mem_append_left _ z)) h3 e1)
            rw [hs a ha, if_neg hau] at y; exact y
          · rcases List.mem_append.mp ht' with y | y
            · have hy := (hrow.2 t' (List.mem_of_mem_take y)).2
              have := keep t'.toNat (by omega) (by rw [show ((t'.toNat : Nat) : Int) = t' by omega]; exact hF'.tgt t' y h0)
              rw [show ((t'.toNat : Nat) : Int) = t' by omega] at this; exact this
            · rw [List.mem_singleton.mp y]; exact new
        · refine b_nil ⟨fl', wt', _, ⟨⟨hl', hF'.rch, hF'.wts, hF'.cls, fun t' ht' h0 => ?_⟩, hms, hhf'⟩, rfl⟩
          rcases List.mem_append.mp ht' with y | y
          · exact hF'.tgt t' y h0
          · have e1 := List.mem_singleton.mp y
            subst e1
            cases q : ix fl' t' with
            | true => rfl
            | false => rw [q, decide_eq_true h0] at h; cases h
        rintro _ ⟨fl', wt', a, q, rfl⟩
        exact B.weak (b_nil ⟨fl', wt', q, rfl⟩) (.same (.same (.same (.same (.same (.un .nil))))))
      · rintro _ ⟨fl', wt', ⟨hF', hms, hhf'⟩, rfl⟩
        rw [List.take_length] at hF'
        refine B.weak (b_nil ⟨2 * cntF fl' + wt'.length, by omega, fl', wt', ⟨⟨hF'.len, hF'.rch, hF'.wts, fun a c ha hc h1 h2 _ e1 => ?_, fun t ht => by cases ht⟩, rfl, by omega⟩, rfl⟩) (.same (.same (.same (.same (.un (.un .nil))))))
        by_cases z : a = here
        · subst z; exact hF'.tgt (c : Int) e1 (by omega)
        · exact hF'.cls a c ha hc h1 h2 z e1
    · have hw : wt = [] := by cases wt with | nil => rfl | cons x xs => cases h
      subst hw
      refine b_freeze 2 rfl ?_
      exact b_cons (s_ret (e_var 2) (fun M v r => ret_is r (hF.fin hg hk).symm))
end

structure Sqr (tb : List (List Bool)) : Prop where
  len : tb.length ≤ 1000
  row : ∀ r ∈ tb, r.length = tb.length
theorem reachTab_sqr {kinds : List (List Int)} {n e : Int} (h : Good kinds n e) (hn : n ≤ 1000) : Sqr (reachTab kinds) ∧ (reachTab kinds).length = kinds.length := by
  have hl : (reachTab kinds).length = kinds.length := by unfold reachTab tabP; simp
  refine ⟨⟨by have := h.len; omega, fun r hr => ?_⟩, hl⟩
  unfold reachTab tabP at hr
  obtain ⟨a, _, rfl⟩ := List.mem_map.mp hr
  rw [rowP_len, hl]
def aroundM (tb : List (List Bool)) (k : Int) : List Int := ((List.range tb.length).filter fun o : Nat => ix (ix tb k) (o : Int) && ix (ix tb (o : Int)) k).map fun o : Nat => (o : Int)
def spknot_around (K : Fg) : Sp := spG K (fun i : List (List Bool) × Int => [.vl (tLst (tLst tB)) i.1, .vl tI i.2]) (fun i => Sqr i.1 ∧ 0 ≤ i.2 ∧ i.2 < i.1.length) (tTup tI) (fun i => aroundM i.1 i.2)
section
variable {P : Program} {w : World} {K : Fg} {mg : Str → Option Value} {base : Heap}
theorem sc_knot_around : FnScope ["table", "kind", "other"] ["table", "kind"] (defScope sknot_around) := ⟨rfl, rfl, rfl, by decide +kernel, rfl, by decide +kernel, by decide +kernel⟩
theorem okknot_around {f : Addr} {fd : FuncData} (F : Fun K "knot_around" "knot_around" sknot_around f fd) (b : Bi mg)  : FnOk P w K mg base CX0 1 f fd ["table", "kind"] (spknot_around K) := by
  refine fn_ok F sc_knot_around 1 rfl (fun _ => rfl) (fun cdv A outer s H E hr ⟨table, kind⟩ hp => ?_)
  dsimp only at hp ⊢
  obtain ⟨⟨hl, hrw⟩, k0, k1⟩ := hp
  have hk := hrw _ (ix_mem (xs := table) (i := kind) (by omega) (by omega))
  have ho := fun (o : Nat) (h : (o : Int) < table.length) => hrw _ (ix_mem (xs := table) (i := (o : Int)) (by omega) h)
  refine b_cons (s_ret (e_tupL b.tuple (EL.toE (el_lc (lc_RF (f := fun o : Nat => (o : Int)) (g := fun o : Nat => ix (ix table kind) (o : Int) && ix (ix table (o : Int)) kind) (own := [("other", 2)]) b.range (e_lenL b.len (e_var 0)) (by omega) 2 (fun s0 H C cl fp m hx => (TW.toT (w_and (t_val (e_ixL (e_ixL (e_var 0) (e_var 1) (atI_ix (by omega) (by omega))) (e_var 2) (atI_ix (by omega) (by omega)))) (fun h => (w_and1 (t_val (e_ixL (e_ixL (e_var 0) (e_var 2) (atI_ix (by omega) (by omega))) (e_var 1) (atI_ix (by have := ho m hx; omega) (by have := ho m hx; omega))))))))) (fun s0 H C cl fp m hx hd => (e_var 2)) (blkOk_by (N := ["table", "kind", "other"]) (sc := defScope sknot_around) (by decide +kernel)) (fun _ _ _ _ _ => pg_name sc_knot_around.nd rfl (by first | exact Or.inl rfl | exact Or.inr rfl))) rfl sc_knot_around.nd))) (fun M v r => ?_))
  exact r
end

def blockedM (tb : List (List Bool)) (ws : List Int) (h : Int) : Bool := ws.any fun o => !decide (o = h) && ix (ix tb h) o
def inB (tb : List (List Bool)) (ws : List Int) : Prop := ∀ x ∈ ws, 0 ≤ x ∧ x < tb.length
def spis_blocked (K : Fg) : Sp := spG K (fun i : List (List Bool) × List Int × Int => [.vl (tLst (tLst tB)) i.1, .vl (tLst tI) i.2.1, .vl tI i.2.2]) (fun i => Sqr i.1 ∧ inB i.1 i.2.1 ∧ 0 ≤ i.2.2 ∧ i.2.2 < i.1.length) tB (fun i => blockedM i.1 i.2.1 i.2.2)
section
variable {P : Program} {w : World} {K : Fg} {mg : Str → Option Value} {base : Heap}
theorem sc_is_blocked : FnScope ["table", "waiting", "head", "other"] ["table", "waiting", "head"] (defScope sis_blocked) := ⟨rfl, rfl, rfl, by decide +kernel, rfl, by decide +kernel, by decide +kernel⟩
theorem okis_blocked {f : Addr} {fd : FuncData} (F : Fun K "is_blocked" "is_blocked" sis_blocked f fd) (b : Bi mg)  : FnOk P w K mg base CX0 1 f fd ["table", "waiting", "head"] (spis_blocked K) := by
  refine fn_ok F sc_is_blocked 1 rfl (fun _ => rfl) (fun cdv A outer s H E hr ⟨table, waiting, head⟩ hp => ?_)
  dsimp only at hp ⊢
  obtain ⟨⟨hl, hrw⟩, hw, k0, k1⟩ := hp
  have hk := hrw _ (ix_mem (xs := table) (i := head) (by omega) (by omega))
  refine b_cons (s_forL 3 (fun m G' => (∀ o ∈ waiting.take m, (!decide (o = head) && ix (ix table head) o) = false) ∧ G' = [.vl (tLst (tLst tB)) table, .vl (tLst tI) waiting, .vl tI head, .un]) _ (e_var 1) (Sub.refl _) ⟨fun o h => by simp at h, rfl⟩ ?_ ?_ sc_is_blocked.nd rfl)
  · rintro m o _ ho ⟨hI, rfl⟩
    have hom := List.mem_of_getElem? ho
    have hob := hw o hom
    refine b_cons (s_if (TW.toT (w_and (t_cv (e_var 3) (e_var 2) cv_neI) (fun h => w_and1 (t_val (e_ixL (e_ixL (e_var 0) (e_var 2) (atI_ix (by omega) (by omega))) (e_var 3) (atI_ix (by omega) (by omega))))))) (fun h => ?_) (fun h => ?_))
    · refine b_cons (s_ret e_bl (fun M v r => ret_is r ?_))
      exact List.any_eq_true.mpr ⟨o, hom, h⟩
    · refine b_nil (B.weak (b_nil ⟨fun o' ho' => ?_, rfl⟩) (.same (.same (.same (.un .nil)))))
      rw [take_snoc ho] at ho'
      rcases List.mem_append.mp ho' with z | z
      · exact hI o' z
      · rw [List.mem_singleton.mp z]; exact h
  · rintro _ ⟨hI, rfl⟩
    rw [List.take_length] at hI
    refine b_cons (s_ret e_bl (fun M v r => ret_is r ?_))
    cases q : blockedM table waiting head with
    | false => rfl
    | true =>
      obtain ⟨o, h1, h2⟩ := List.any_eq_true.mp q
      rw [hI o h1] at h2; cases h2
end

def nextHM (tb : List (List Bool)) (ws : List Int) : Int := (ws.find? fun h => !blockedM tb ws h).getD (ix ws 0)
def spnext_head (K : Fg) : Sp := spG K (fun i : List (List Bool) × List Int => [.vl (tLst (tLst tB)) i.1, .vl (tLst tI) i.2]) (fun i => Sqr i.1 ∧ inB i.1 i.2 ∧ 0 < i.2.length) tI (fun i => nextHM i.1 i.2)
theorem find_at {α : Type} {p : α → Bool} {ws : List α} {m : Nat} {o : α} (h0 : ∀ x ∈ ws.take m, p x = false) (ho : ws[m]? = some o) (h : p o = true) : ws.find? p = some o := by
  have e : ws = ws.take m ++ o :: ws.drop (m + 1) := by
    obtain ⟨h1, h2⟩ := List.getElem?_eq_some_iff.mp ho
    rw [← h2, ← List.drop_eq_getElem_cons h1, List.take_append_drop]
  have n1 : (ws.take m).find? p = none := by
    rw [List.find?_eq_none]
    intro x hx
    rw [h0 x hx]; simp
  rw [e, List.find?_append, n1, List.find?_cons_of_pos h]; rfl
theorem nextHM_mem {tb : List (List Bool)} {ws : List Int} (h : 0 < ws.length) : nextHM tb ws ∈ ws := by
  unfold nextHM
  cases q : ws.find? fun h => !blockedM tb ws h with
  | none => exact ix_mem (by omega) (by omega)
  | some x => exact List.mem_of_find?_eq_some q
section
variable {P : Program} {w : World} {K : Fg} {mg : Str → Option Value} {base : Heap}
theorem sc_next_head : FnScope ["table", "waiting", "head"] ["table", "waiting"] (defScope snext_head) := ⟨rfl, rfl, rfl, by decide +kernel, rfl, by decide +kernel, by decide +kernel⟩
theorem oknext_head {f : Addr} {fd : FuncData} (F : Fun K "next_head" "next_head" snext_head f fd) (b : Bi mg) (Cis_blocked : Fn P w K mg base CX0 1 "is_blocked" ["table", "waiting", "head"] (spis_blocked K)) : FnOk P w K mg base CX0 2 f fd ["table", "waiting"] (spnext_head K) := by
  refine fn_ok F sc_next_head 1 rfl (fun _ => rfl) (fun cdv A outer s H E hr ⟨table, waiting⟩ hp => ?_)
  dsimp only at hp ⊢
  obtain ⟨hs, hw, hwl⟩ := hp
  refine b_cons (s_forL 2 (fun m G' => (∀ o ∈ waiting.take m, blockedM table waiting o = true) ∧ G' = [.vl (tLst (tLst tB)) table, .vl (tLst tI) waiting, .un]) _ (e_var 1) (Sub.refl _) ⟨fun o h => by simp at h, rfl⟩ ?_ ?_ sc_next_head.nd rfl)
  · rintro m o _ ho ⟨hI, rfl⟩
    have hom := List.mem_of_getElem? ho
    refine b_cons (s_if (t_not (t_val (e_call Cis_blocked (hr.mono (by decide)) (table, waiting, o) (ea_cons (e_var 0) (ea_cons (e_var 1) (ea_cons (e_var 2) ea_nil))) (show Sqr table ∧ inB table waiting ∧ 0 ≤ o ∧ o < table.length from ⟨hs, hw, hw o hom⟩)))) (fun h => ?_) (fun h => ?_))
    · refine b_cons (s_ret (e_var 2) (fun M v r => ret_is r ?_))
      have hf := find_at (p := fun h => !blockedM table waiting h) (fun x hx => by show (!blockedM table waiting x) = false; rw [hI x hx]; rfl) ho h
      unfold nextHM
      rw [hf]; rfl
    · refine b_nil (B.weak (b_nil ⟨fun o' ho' => ?_, rfl⟩) (.same (.same (.un .nil))))
      rw [take_snoc ho] at ho'
      rcases List.mem_append.mp ho' with z | z
      · exact hI o' z
      · rw [List.mem_singleton.mp z]; simpa using h
  · rintro _ ⟨hI, rfl⟩
    rw [List.take_length] at hI
    refine b_cons (s_ret (e_ixL (e_var 1) e_int (atI_ix (by omega) (by omega))) (fun M v r => ret_is r ?_))
    have hf : waiting.find? (fun h => !blockedM table waiting h) = none := by
      rw [List.find?_eq_none]
      intro x hx
      rw [hI x hx]; simp
    unfold nextHM
    rw [hf]; rfl
end

def headsM (tb : List (List Bool)) : List Int := ((List.range tb.length).filter fun k : Nat => ix (ix tb (k : Int)) (k : Int) && decide (ix (aroundM tb (k : Int)) 0 = (k : Int))).map fun k : Nat => (k : Int)
def klM (tb : List (List Bool)) : Nat → List Int → List (List Int)
  | 0, _ => []
  | n + 1, ws => if ws.isEmpty then [] else aroundM tb (nextHM tb ws) :: klM tb n (ws.filter fun h => !decide (h = nextHM tb ws))
noncomputable def knotsM (kinds : List (List Int)) : List (List Int) := klM (reachTab kinds) (headsM (reachTab kinds)).length (headsM (reachTab kinds))
theorem heads_in {tb : List (List Bool)} : inB tb (headsM tb) := fun x hx => by
  obtain ⟨k, hk, rfl⟩ := List.mem_map.mp hx
  have := List.mem_range.mp (List.mem_filter.mp hk).1
  omega
theorem klM_fuel (tb : List (List Bool)) : ∀ (n m : Nat) (ws : List Int), ws.length ≤ n → ws.length ≤ m → klM tb n ws = klM tb m ws
  | 0, m, ws, h, _ => by
    have : ws = [] := List.eq_nil_of_length_eq_zero (by omega)
    subst this
    cases m <;> rfl
  | n + 1, 0, ws, _, h => by
    have : ws = [] := List.eq_nil_of_length_eq_zero (by omega)
    subst this; rfl
  | n + 1, m + 1, ws, h1, h2 => by
    unfold klM
    by_cases z : ws.isEmpty = true
    · rw [if_pos z, if_pos z]
    · rw [if_neg z, if_neg z]
      have hl : (ws.filter fun h => !decide (h = nextHM tb ws)).length < ws.length := by
        have hp : 0 < ws.length := by cases ws with | nil => exact absurd rfl z | cons x xs => simp
        refine List.length_filter_lt_length_iff_exists.mpr ⟨nextHM tb ws, nextHM_mem hp, by simp⟩
      rw [klM_fuel tb n m _ (by omega) (by omega)]
theorem around_self {tb : List (List Bool)} {k : Nat} (hk : k < tb.length) (h : ix (ix tb (k : Int)) (k : Int) = true) : (k : Int) ∈ aroundM tb (k : Int) :=
  List.mem_map.mpr ⟨k, List.mem_filter.mpr ⟨List.mem_range.mpr hk, by rw [h]; rfl⟩, rfl⟩
noncomputable def spknot_list (K : Fg) : Sp := spG K (fun i : List (List Int) => [.vl (tTup (tTup tI)) i]) (fun i => Good i 1000 1000) (tTup (tTup tI)) (fun i => knotsM i)
section
variable {P : Program} {w : World} {K : Fg} {mg : Str → Option Value} {base : Heap}
theorem sc_knot_list : FnScope ["kinds", "table", "kind", "waiting", "listed", "chosen", "head"] ["kinds"] (defScope sknot_list) := ⟨rfl, rfl, rfl, by decide +kernel, rfl, by decide +kernel, by decide +kernel⟩
theorem okknot_list {f : Addr} {fd : FuncData} (F : Fun K "knot_list" "knot_list" sknot_list f fd) (b : Bi mg) (Creach_flags : Fn P w K mg base CX0 1 "reach_flags" ["kinds", "kind"] (spreach_flags K)) (Cknot_around : Fn P w K mg base CX0 1 "knot_around" ["table", "kind"] (spknot_around K)) (Cnext_head : Fn P w K mg base CX0 2 "next_head" ["table", "waiting"] (spnext_head K)) : FnOk P w K mg base CX0 3 f fd ["kinds"] (spknot_list K) := by
  refine fn_ok F sc_knot_list 6 rfl (fun _ => rfl) (fun cdv A outer s H E hr kinds hg => ?_)
  have hlen := hg.len
  obtain ⟨hsq, htl⟩ := reachTab_sqr hg (by omega)
  refine b_cons (s_set 1 (EL.toE (el_lc (lc_R (f := fun k : Nat => rowP kinds kinds.length k) (own := [("kind", 2)]) b.range (e_lenT b.len (e_var 0)) (by omega) 2 (fun s0 H C cl fp m hx => TL.E.is (e_call Creach_flags (hr.mono (by decide)) (kinds, (m : Int)) (ea_cons (e_var 0) (ea_cons (e_var 2) ea_nil)) (show Good kinds 1000 1000 ∧ 0 ≤ (m : Int) ∧ (m : Int) < kinds.length from ⟨hg, by omega, by omega⟩)) (by show rowP kinds kinds.length (m : Int).toNat = _; rw [Int.toNat_natCast])) (blkOk_by (N := ["kinds", "table", "kind", "waiting", "listed", "chosen", "head"]) (sc := defScope sknot_list) (by decide +kernel)) (fun _ _ _ _ _ => pg_name sc_knot_list.nd rfl (by first | exact Or.inl rfl | exact Or.inr rfl))) rfl sc_knot_list.nd)) ?_ sc_knot_list.nd)
  have et : (List.range (kinds.length : Int).toNat).map (fun k : Nat => rowP kinds kinds.length k) = reachTab kinds := by rw [Int.toNat_natCast]; rfl
  rw [et]
  have hrow := fun (o : Nat) (h : (o : Int) < (reachTab kinds).length) => hsq.row _ (ix_mem (xs := reachTab kinds) (i := (o : Int)) (by omega) h)
  unfold spknot_list at *
  show B _ _ _ (Ret K (tTup (tTup tI)) (klM (reachTab kinds) (headsM (reachTab kinds)).length (headsM (reachTab kinds))))
  generalize reachTab kinds = tb at hsq htl hrow ⊢
  refine b_cons (s_lc 3 (lc_RF (f := fun k : Nat => (k : Int)) (g := fun k : Nat => ix (ix tb (k : Int)) (k : Int) && decide (ix (aroundM tb (k : Int)) 0 = (k : Int))) (own := [("kind", 2)]) b.range (e_lenT b.len (e_var 0)) (by omega) 2 (fun s0 H C cl fp m hx => TW.toT (w_and (t_val (e_ixL (e_ixL (e_var 1) (e_var 2) (atI_ix (by omega) (by omega))) (e_var 2) (atI_ix (by have := hrow m (by omega); omega) (by have := hrow m (by omega); omega)))) (fun h => w_and1 (t_cv (e_ixT (e_call Cknot_around (hr.mono (by decide)) (tb, (m : Int)) (ea_cons (e_var 1) (ea_cons (e_var 2) ea_nil)) (show Sqr tb ∧ 0 ≤ (m : Int) ∧ (m : Int) < tb.length from ⟨hsq, by omega, by omega⟩)) e_int (atI_ix (by omega) (by show 0 < ((aroundM tb (m : Int)).length : Int); have := List.length_pos_of_mem (around_self (by omega) h); omega))) (e_var 2) cv_eqI)))) (fun s0 H C cl fp m hx hd => e_var 2) (blkOk_by (N := ["kinds", "table", "kind", "waiting", "listed", "chosen", "head"]) (sc := defScope sknot_list) (by decide +kernel)) (fun _ _ _ _ _ => pg_name sc_knot_list.nd rfl (by first | exact Or.inl rfl | exact Or.inr rfl))) ?_ rfl sc_knot_list.nd)
  have eh : ((List.range (kinds.length : Int).toNat).filter (fun k : Nat => ix (ix tb (k : Int)) (k : Int) && decide (ix (aroundM tb (k : Int)) 0 = (k : Int)))).map (fun k : Nat => (k : Int)) = headsM tb := by rw [Int.toNat_natCast, ← htl]; rfl
  rw [eh]
  refine b_freeze 3 rfl ?_
  refine b_cons (s_own 4 (el_lst (s := tTup tI) eh_nil) ?_ sc_knot_list.nd)
  have hh := heads_in (tb := tb)
  have hhl : (headsM tb).length ≤ 1000 := by
    unfold headsM; rw [List.length_map]
    have := List.length_filter_le (fun k : Nat => ix (ix tb (k : Int)) (k : Int) && decide (ix (aroundM tb (k : Int)) 0 = (k : Int))) (List.range tb.length)
    rw [List.length_range] at this
    have := hsq.len
    omega
  generalize headsM tb = hs at hh hhl
  refine b_cons (s_while (fun m G' => ∃ ws ls c, (ws.length = m ∧ inB tb ws ∧ ls ++ klM tb ws.length ws = klM tb hs.length hs ∧ ls.length + ws.length ≤ 1000) ∧ G' = [.vl (tTup (tTup tI)) kinds, .vl (tLst (tLst tB)) tb, .un, .vl (tLst tI) ws, .ow (tTup tI) ls, c, .un]) _ _ (Sub.refl _) ⟨hs, [], _, ⟨rfl, hh, rfl, by simpa using hhl⟩, rfl⟩ ?_)
  rintro m _ ⟨ws, ls, c, ⟨hm, hin, hk, hb⟩, rfl⟩
  refine ⟨_, t_lst (e_var 3), fun h => ?_, fun h => ?_⟩
  · have hne : ws.isEmpty = false := by simpa using h
    have hp : 0 < ws.length := by cases ws with | nil => cases hne | cons x xs => simp
    have hmem := nextHM_mem (tb := tb) hp
    have hc := hin _ hmem
    have hfl : (ws.filter fun h => !decide (h = nextHM tb ws)).length < ws.length := List.length_filter_lt_length_iff_exists.mpr ⟨nextHM tb ws, hmem, by simp⟩
    refine b_cons (s_set 5 (e_call Cnext_head (hr.mono (by decide)) (tb, ws) (ea_cons (e_var 1) (ea_cons (e_var 3) ea_nil)) (show Sqr tb ∧ inB tb ws ∧ 0 < ws.length from ⟨hsq, hin, hp⟩)) ?_ sc_knot_list.nd)
    refine b_cons (s_app 4 rfl (e_call Cknot_around (hr.mono (by decide)) (tb, nextHM tb ws) (ea_cons (e_var 1) (ea_cons (e_var 5) ea_nil)) (show Sqr tb ∧ 0 ≤ nextHM tb ws ∧ nextHM tb ws < tb.length from ⟨hsq, hc.1, hc.2⟩)) (by omega) ?_)
    refine b_cons (s_lc 3 (lc_LF (f := fun x => x) (g := fun h => !decide (h = nextHM tb ws)) (own := [("head", 6)]) (e_var 3) 6 (fun s0 H C cl fp m x hx => t_cv (e_var 6) (e_var 5) cv_neI) (fun s0 H C cl fp m x hx hd => e_var 6) (blkOk_by (N := ["kinds", "table", "kind", "waiting", "listed", "chosen", "head"]) (sc := defScope sknot_list) (by decide +kernel)) (by omega) (fun _ _ _ _ _ => pg_name sc_knot_list.nd rfl (by first | exact Or.inl rfl | exact Or.inr rfl))) ?_ rfl sc_knot_list.nd)
    rw [List.map_id']
    refine b_freeze 3 rfl ?_
    refine b_nil ⟨_, by rw [hm] at hfl; exact hfl, _, _, _, ⟨rfl, fun x hx => hin x (List.mem_filter.mp hx).1, ?_, by rw [List.length_append, List.length_singleton]; omega⟩, rfl⟩
    rw [← hk, List.append_assoc]
    congr 1
    have e1 : klM tb ws.length ws = aroundM tb (nextHM tb ws) :: klM tb (ws.length - 1) (ws.filter fun h => !decide (h = nextHM tb ws)) := by
      obtain ⟨n, hn⟩ : ∃ n, ws.length = n + 1 := ⟨ws.length - 1, by omega⟩
      rw [hn]
      show (if ws.isEmpty = true then [] else _) = _
      rw [if_neg (by rw [hne]; decide)]
      rfl
    rw [e1]
    show _ :: _ = _ :: _
    rw [klM_fuel tb _ (ws.length - 1) _ (Nat.le_refl _) (by omega)]
    rfl
  · have hw : ws = [] := by cases ws with | nil => rfl | cons x xs => cases h
    subst hw
    refine b_freeze 4 rfl ?_
    refine b_cons (s_ret (e_tupL b.tuple (e_var 4)) (fun M v r => ret_is r ?_))
    rw [← hk]
    show ls ++ [] = ls
    simp
end

def touchM (tb : List (List Bool)) (knot : List Int) (others : List (List Int)) : Bool := others.any fun o => !decide (o = knot) && ix (ix tb (ix knot 0)) (ix o 0)
def sp_law_touches (K : Fg) : Sp := spG K (fun i : List (List Bool) × List Int × List (List Int) => [.vl (tLst (tLst tB)) i.1, .vl (tTup tI) i.2.1, .vl (tLst (tTup tI)) i.2.2]) (fun i => Sqr i.1 ∧ (0 < i.2.1.length ∧ inB i.1 i.2.1) ∧ ∀ o ∈ i.2.2, 0 < o.length ∧ inB i.1 o) tB (fun i => touchM i.1 i.2.1 i.2.2)
section
variable {P : Program} {w : World} {K : Fg} {mg : Str → Option Value} {base : Heap}
theorem sc_law_touches : FnScope ["reach", "knot", "others", "other"] ["reach", "knot", "others"] (defScope s_law_touches) := ⟨rfl, rfl, rfl, by decide +kernel, rfl, by decide +kernel, by decide +kernel⟩
theorem ok_law_touches {f : Addr} {fd : FuncData} (F : Fun K "_law_touches" "_law_touches" s_law_touches f fd) (b : Bi mg) : FnOk P w K mg base CX0 1 f fd ["reach", "knot", "others"] (sp_law_touches K) := by
  refine fn_ok F sc_law_touches 1 rfl (fun _ => rfl) (fun cdv A outer s H E hr ⟨table, knot, others⟩ hp => ?_)
  dsimp only at hp ⊢
  obtain ⟨⟨hl, hrw⟩, ⟨k0, k1⟩, ho⟩ := hp
  have hk := k1 _ (ix_mem (xs := knot) (i := 0) (by omega) (by omega))
  have hkr := hrw _ (ix_mem (xs := table) (i := ix knot 0) (by omega) (by omega))
  refine b_cons (s_forL 3 (fun m G' => (∀ o ∈ others.take m, (!decide (o = knot) && ix (ix table (ix knot 0)) (ix o 0)) = false) ∧ G' = [.vl (tLst (tLst tB)) table, .vl (tTup tI) knot, .vl (tLst (tTup tI)) others, .un]) _ (e_var 2) (Sub.refl _) ⟨fun o h => by simp at h, rfl⟩ ?_ ?_ sc_law_touches.nd rfl)
  · rintro m o _ hm ⟨hI, rfl⟩
    have hom := List.mem_of_getElem? hm
    obtain ⟨o0, o1⟩ := ho o hom
    have hob := o1 _ (ix_mem (xs := o) (i := 0) (by omega) (by omega))
    refine b_cons (s_if (TW.toT (w_and (t_cv (e_var 3) (e_var 1) (cv_neD hr (sh_row _) (sh_row _) (fun _ _ r => dp_row r) (fun _ _ r => dp_row r))) (fun h => w_and1 (t_val (e_ixL (e_ixL (e_var 0) (e_ixT (e_var 1) e_int (atI_ix (by omega) (by omega))) (atI_ix (by omega) (by omega))) (e_ixT (e_var 3) e_int (atI_ix (by omega) (by omega))) (atI_ix (by omega) (by omega))))))) (fun h => ?_) (fun h => ?_))
    · rw [eqv_row] at h
      refine b_cons (s_ret e_bl (fun M v r => ret_is r ?_))
      exact List.any_eq_true.mpr ⟨o, hom, h⟩
    · rw [eqv_row] at h
      refine b_nil (B.weak (b_nil ⟨fun o' ho' => ?_, rfl⟩) (.same (.same (.same (.un .nil)))))
      rw [take_snoc hm] at ho'
      rcases List.mem_append.mp ho' with z | z
      · exact hI o' z
      · rw [List.mem_singleton.mp z]; exact h
  · rintro _ ⟨hI, rfl⟩
    rw [List.take_length] at hI
    refine b_cons (s_ret e_bl (fun M v r => ret_is r ?_))
    cases q : touchM table knot others with
    | false => rfl
    | true =>
      obtain ⟨o, h1, h2⟩ := List.any_eq_true.mp q
      rw [hI o h1] at h2; cases h2
end

/-! knots and their heads -/
def R (tb : List (List Bool)) (a b : Int) : Prop := ix (ix tb a) b = true
theorem reach_R {kinds : List (List Int)} {a b : Nat} (ha : a < kinds.length) (hb : b < kinds.length) : R (reachTab kinds) a b ↔ Rch kinds a b := by
  classical
  unfold R reachTab tabP
  rw [ix_range ha]
  unfold rowP
  rw [ix_range hb]
  exact decide_eq_true_iff
structure Trn (tb : List (List Bool)) : Prop where
  sq : Sqr tb
  tr : ∀ a c b : Int, (0 ≤ a ∧ a < tb.length) → (0 ≤ c ∧ c < tb.length) → (0 ≤ b ∧ b < tb.length) → R tb a c → R tb c b → R tb a b
theorem reach_trn {kinds : List (List Int)} {n e : Int} (h : Good kinds n e) (hn : n ≤ 1000) : Trn (reachTab kinds) := by
  obtain ⟨hs, hl⟩ := reachTab_sqr h hn
  refine ⟨hs, fun a c b ha hc hb h1 h2 => ?_⟩
  rw [hl] at ha hc hb
  obtain ⟨a, rfl⟩ : ∃ k : Nat, a = (k : Int) := ⟨a.toNat, by omega⟩
  obtain ⟨c, rfl⟩ : ∃ k : Nat, c = (k : Int) := ⟨c.toNat, by omega⟩
  obtain ⟨b, rfl⟩ : ∃ k : Nat, b = (k : Int) := ⟨b.toNat, by omega⟩
  rw [reach_R (by omega) (by omega)] at h1 h2 ⊢
  exact Pth.trans h1 (by omega) h2
theorem mem_around {tb : List (List Bool)} {k x : Int} : x ∈ aroundM tb k ↔ ∃ o : Nat, o < tb.length ∧ x = (o : Int) ∧ R tb k o ∧ R tb o k := by
  unfold aroundM R
  constructor
  · intro h
    obtain ⟨o, ho, rfl⟩ := List.mem_map.mp h
    obtain ⟨h1, h2⟩ := List.mem_filter.mp ho
    obtain ⟨q1, q2⟩ := (Bool.and_eq_true _ _).mp h2
    exact ⟨o, List.mem_range.mp h1, rfl, q1, q2⟩
  · rintro ⟨o, h1, rfl, h2, h3⟩
    exact List.mem_map.mpr ⟨o, List.mem_filter.mpr ⟨List.mem_range.mpr h1, by rw [h2, h3]; rfl⟩, rfl⟩
theorem around_eq {tb : List (List Bool)} (T : Trn tb) {a b : Int} (ha : 0 ≤ a ∧ a < tb.length) (hb : 0 ≤ b ∧ b < tb.length) (h1 : R tb a b) (h2 : R tb b a) : aroundM tb a = aroundM tb b := by
  unfold aroundM
  congr 1
  apply List.filter_congr
  intro o ho
  have ho := List.mem_range.mp ho
  have hoi : 0 ≤ (o : Int) ∧ (o : Int) < tb.length := by omega
  have e1 : R tb a o ↔ R tb b o := ⟨fun h => T.tr b a o hb ha hoi h2 h, fun h => T.tr a b o ha hb hoi h1 h⟩
  have e2 : R tb o a ↔ R tb o b := ⟨fun h => T.tr o a b hoi ha hb h h1, fun h => T.tr o b a hoi hb ha h h2⟩
  unfold R at e1 e2
  rw [Bool.eq_iff_iff, Bool.and_eq_true, Bool.and_eq_true, e1, e2]
structure Hd (tb : List (List Bool)) (h : Int) : Prop where
  b : 0 ≤ h ∧ h < tb.length
  self : R tb h h
  fst : ix (aroundM tb h) 0 = h
theorem heads_hd {tb : List (List Bool)} : ∀ h ∈ headsM tb, Hd tb h := fun h hh => by
  obtain ⟨k, hk, rfl⟩ := List.mem_map.mp hh
  obtain ⟨h1, h2⟩ := List.mem_filter.mp hk
  have h1 := List.mem_range.mp h1
  obtain ⟨q1, q2⟩ := (Bool.and_eq_true _ _).mp h2
  exact ⟨by omega, q1, of_decide_eq_true q2⟩
theorem hd_eq {tb : List (List Bool)} (T : Trn tb) {a b : Int} (ha : Hd tb a) (hb : Hd tb b) (h1 : R tb a b) (h2 : R tb b a) : a = b := by
  rw [← ha.fst, ← hb.fst, around_eq T ha.b hb.b h1 h2]
theorem hd_inj {tb : List (List Bool)} {a b : Int} (ha : Hd tb a) (hb : Hd tb b) : aroundM tb a = aroundM tb b ↔ a = b := ⟨fun h => by rw [← ha.fst, ← hb.fst, h], fun h => by rw [h]⟩
theorem touch_eq {tb : List (List Bool)} {ws : List Int} {h : Int} (hh : Hd tb h) (hw : ∀ o ∈ ws, Hd tb o) : touchM tb (aroundM tb h) (ws.map (aroundM tb)) = blockedM tb ws h := by
  unfold touchM blockedM
  rw [List.any_map, hh.fst]
  have key : ∀ o ∈ ws, ((fun o => !decide (o = aroundM tb h) && ix (ix tb h) (ix o 0)) ∘ aroundM tb) o = (!decide (o = h) && ix (ix tb h) o) := fun o ho => by
    have hd := hw o ho
    show (!decide (aroundM tb o = aroundM tb h) && ix (ix tb h) (ix (aroundM tb o) 0)) = _
    rw [hd.fst]
    congr 2
    exact decide_eq_decide.mpr (hd_inj hd hh)
  rw [Bool.eq_iff_iff, List.any_eq_true, List.any_eq_true]
  exact ⟨fun ⟨o, h1, h2⟩ => ⟨o, h1, by rw [← key o h1]; exact h2⟩, fun ⟨o, h1, h2⟩ => ⟨o, h1, by rw [key o h1]; exact h2⟩⟩
theorem filter_le' {α : Type} {p q : α → Bool} : ∀ {xs : List α}, (∀ x ∈ xs, p x = true → q x = true) → (xs.filter p).length ≤ (xs.filter q).length
  | [], _ => Nat.le_refl _
  | x :: xs, h => by
    have ih := filter_le' (p := p) (q := q) (xs := xs) fun y hy => h y (List.mem_cons_of_mem _ hy)
    have hx := h x (List.mem_cons_self ..)
    cases hp : p x with
    | true => rw [List.filter_cons_of_pos hp, List.filter_cons_of_pos (hx hp), List.length_cons, List.length_cons]; omega
    | false =>
      rw [List.filter_cons_of_neg (by rw [hp]; decide)]
      cases hq : q x with
      | true => rw [List.filter_cons_of_pos hq, List.length_cons]; omega
      | false => rw [List.filter_cons_of_neg (by rw [hq]; decide)]; exact ih
theorem filter_lt' {α : Type} {p q : α → Bool} : ∀ {xs : List α}, (∀ x ∈ xs, p x = true → q x = true) → (∃ x ∈ xs, q x = true ∧ p x = false) → (xs.filter p).length < (xs.filter q).length
  | [], _, ⟨x, hx, _⟩ => by cases hx
  | x :: xs, h, ⟨y, hy, h1, h2⟩ => by
    have hl := filter_le' (p := p) (q := q) (xs := xs) fun z hz => h z (List.mem_cons_of_mem _ hz)
    rcases List.mem_cons.mp hy with z | z
    · subst z
      rw [List.filter_cons_of_neg (by rw [h2]; decide), List.filter_cons_of_pos h1, List.length_cons]; omega
    · have ih := filter_lt' (p := p) (q := q) (xs := xs) (fun z hz => h z (List.mem_cons_of_mem _ hz)) ⟨y, z, h1, h2⟩
      have hx := h x (List.mem_cons_self ..)
      cases hp : p x with
      | true => rw [List.filter_cons_of_pos hp, List.filter_cons_of_pos (hx hp), List.length_cons, List.length_cons]; omega
      | false =>
        rw [List.filter_cons_of_neg (by rw [hp]; decide)]
        cases hq : q x with
        | true => rw [List.filter_cons_of_pos hq, List.length_cons]; omega
        | false => rw [List.filter_cons_of_neg (by rw [hq]; decide)]; exact ih
/-- among heads one is not blocked -/
theorem one_free {tb : List (List Bool)} (T : Trn tb) {ws : List Int} (hw : ∀ o ∈ ws, Hd tb o) : ∀ (c : Nat) (h : Int), h ∈ ws → (ws.filter fun o => ix (ix tb h) o).length ≤ c → ∃ o ∈ ws, blockedM tb ws o = false
  | 0, h, hh, hc => by
    have : h ∈ ws.filter fun o => ix (ix tb h) o := List.mem_filter.mpr ⟨hh, (hw h hh).self⟩
    have := List.length_pos_of_mem this
    omega
  | c + 1, h, hh, hc => by
    cases hb : blockedM tb ws h with
    | false => exact ⟨h, hh, hb⟩
    | true =>
      obtain ⟨o, ho, h2⟩ := List.any_eq_true.mp hb
      obtain ⟨q1, q2⟩ := (Bool.and_eq_true _ _).mp h2
      have q1 : o ≠ h := by simpa using q1
      refine one_free T hw c o ho ?_
      have hlt : (ws.filter fun x => ix (ix tb o) x).length < (ws.filter fun x => ix (ix tb h) x).length := by
        refine filter_lt' (fun x hx h3 => T.tr h o x (hw h hh).b (hw o ho).b (hw x hx).b q2 h3) ⟨h, hh, (hw h hh).self, ?_⟩
        cases q : ix (ix tb o) h with
        | false => rfl
        | true => exact absurd (hd_eq T (hw o ho) (hw h hh) q q2) q1
      omega
theorem next_free {tb : List (List Bool)} (T : Trn tb) {ws : List Int} (hw : ∀ o ∈ ws, Hd tb o) (hp : 0 < ws.length) : ∃ rest, (ws.filter fun h => !blockedM tb ws h) = nextHM tb ws :: rest := by
  obtain ⟨x, hx⟩ : ∃ x, x ∈ ws := ⟨ws[0], List.getElem_mem hp⟩
  obtain ⟨o, ho, hb⟩ := one_free T hw _ x hx (Nat.le_refl _)
  have hf : (ws.filter fun h => !blockedM tb ws h).head? = ws.find? fun h => !blockedM tb ws h := List.head?_filter
  cases q : ws.filter fun h => !blockedM tb ws h with
  | nil =>
    have : o ∈ ws.filter fun h => !blockedM tb ws h := List.mem_filter.mpr ⟨ho, by rw [hb]; rfl⟩
    rw [q] at this; cases this
  | cons y ys =>
    rw [q] at hf
    refine ⟨ys, ?_⟩
    unfold nextHM
    rw [← hf]; rfl

theorem klM_mem {tb : List (List Bool)} : ∀ (n : Nat) (ws : List Int), ∀ knot ∈ klM tb n ws, ∃ h, knot = aroundM tb h
  | 0, ws, knot, hk => by cases hk
  | n + 1, ws, knot, hk => by
    unfold klM at hk
    split at hk
    · cases hk
    · rcases List.mem_cons.mp hk with z | z
      · exact ⟨_, z⟩
      · exact klM_mem n _ knot z
theorem knots_in {kinds : List (List Int)} {n e : Int} (h : Good kinds n e) (hn : n ≤ 1000) : ∀ knot ∈ knotsM kinds, knot.length ≤ kinds.length ∧ ∀ k ∈ knot, 0 ≤ k ∧ k < kinds.length := fun knot hk => by
  obtain ⟨hd, rfl⟩ := klM_mem _ _ knot hk
  obtain ⟨_, hl⟩ := reachTab_sqr h hn
  refine ⟨?_, fun k hk => ?_⟩
  · unfold aroundM
    rw [List.length_map]
    have := List.length_filter_le (fun o : Nat => ix (ix (reachTab kinds) hd) (o : Int) && ix (ix (reachTab kinds) (o : Int)) hd) (List.range (reachTab kinds).length)
    rw [List.length_range] at this
    omega
  · obtain ⟨o, h1, rfl, _, _⟩ := mem_around.mp hk
    omega
theorem klM_len (tb : List (List Bool)) : ∀ (n : Nat) (ws : List Int), (klM tb n ws).length ≤ n
  | 0, ws => Nat.le_refl _
  | n + 1, ws => by
    unfold klM
    split
    · exact Nat.zero_le _
    · rw [List.length_cons]; have := klM_len tb n (ws.filter fun h => !decide (h = nextHM tb ws)); omega
theorem knots_len {kinds : List (List Int)} {n e : Int} (h : Good kinds n e) (hn : n ≤ 1000) : (knotsM kinds).length ≤ kinds.length := by
  obtain ⟨_, hl⟩ := reachTab_sqr h hn
  refine Nat.le_trans (klM_len _ _ _) ?_
  unfold headsM
  rw [List.length_map]
  have := List.length_filter_le (fun k : Nat => ix (ix (reachTab kinds) (k : Int)) (k : Int) && decide (ix (aroundM (reachTab kinds) (k : Int)) 0 = (k : Int))) (List.range (reachTab kinds).length)
  rw [List.length_range] at this
  omega
def numSet (m : Int) (a : List (Option Int)) (k : Int) : List (Option Int) := a.set k.toNat (some m)
def numUpTo (knots : List (List Int)) (n : Nat) (m : Nat) : List (Option Int) := (List.range m).foldl (fun a (j : Nat) => (ix knots (j : Int)).foldl (numSet (j : Int)) a) (List.replicate n none)
noncomputable def numbersM (kinds : List (List Int)) : List (Option Int) := numUpTo (knotsM kinds) kinds.length (knotsM kinds).length
theorem numSets_len (m : Int) : ∀ (ks : List Int) (a : List (Option Int)), (ks.foldl (numSet m) a).length = a.length
  | [], a => rfl
  | k :: ks, a => by rw [List.foldl_cons, numSets_len m ks]; unfold numSet; rw [List.length_set]
theorem numUpTo_succ (knots : List (List Int)) (n m : Nat) : numUpTo knots n (m + 1) = (ix knots (m : Int)).foldl (numSet (m : Int)) (numUpTo knots n m) := by
  unfold numUpTo; rw [List.range_succ, List.foldl_append]; rfl
theorem numUpTo_len (knots : List (List Int)) (n : Nat) : ∀ m, (numUpTo knots n m).length = n
  | 0 => by unfold numUpTo; simp
  | m + 1 => by rw [numUpTo_succ, numSets_len, numUpTo_len knots n m]
noncomputable def spknot_numbers (K : Fg) : Sp := spG K (fun i : List (List Int) => [.vl (tTup (tTup tI)) i]) (fun i => Good i 1000 1000) (tTup (tO tI)) (fun i => numbersM i)
section
variable {P : Program} {w : World} {K : Fg} {mg : Str → Option Value} {base : Heap}
theorem sc_knot_numbers : FnScope ["kinds", "numbers", "number", "knot", "kind"] ["kinds"] (defScope sknot_numbers) := ⟨rfl, rfl, rfl, by decide +kernel, rfl, by decide +kernel, by decide +kernel⟩
theorem okknot_numbers {f : Addr} {fd : FuncData} (F : Fun K "knot_numbers" "knot_numbers" sknot_numbers f fd) (b : Bi mg) (Cknot_list : Fn P w K mg base CX0 3 "knot_list" ["kinds"] (spknot_list K)) : FnOk P w K mg base CX0 4 f fd ["kinds"] (spknot_numbers K) := by
  refine fn_ok F sc_knot_numbers 4 rfl (fun _ => rfl) (fun cdv A outer s H E hr kinds hg => ?_)
  have hlen := hg.len
  have hin := knots_in hg (by omega)
  refine b_cons (s_own 1 (el_rep (s := tO tI) (EL.toE (el_lst (s := tO tI) (eh_cons (TL.E.as (t := tO tI) (y := none) e_non (fun M v r => r)) eh_nil))) (e_lenT b.len (e_var 0)) (by omega) (by simp only [List.length_cons, List.length_nil]; omega)) ?_ sc_knot_numbers.nd)
  have er : ∀ n : Nat, (List.replicate n [(none : Option Int)]).flatten = List.replicate n none := fun n => by
    induction n with
    | zero => rfl
    | succ n ih => rw [List.replicate_succ, List.flatten_cons, ih]; rfl
  rw [er, Int.toNat_natCast]
  refine b_cons (s_forEn 2 3 (fun m G' => G' = [.vl (tTup (tTup tI)) kinds, .ow (tO tI) (numUpTo (knotsM kinds) kinds.length m), .un, .un, .un]) _ b.enumerate (e_call Cknot_list (hr.mono (by decide)) kinds (ea_cons (e_var 0) ea_nil) hg) (Sub.refl _) rfl ?_ ?_ sc_knot_numbers.nd rfl)
  · rintro m knot _ hm rfl
    have hk := hin knot (List.mem_of_getElem? hm)
    have hkm : ix (knotsM kinds) (m : Int) = knot := ix_getElem (by omega) (by rw [Int.toNat_natCast]; exact hm)
    rw [numUpTo_succ, hkm]
    have hnl := numUpTo_len (knotsM kinds) kinds.length m
    generalize numUpTo (knotsM kinds) kinds.length m = acc at hnl ⊢
    refine b_cons (s_forT 4 (fun j G' => G' = [.vl (tTup (tTup tI)) kinds, .ow (tO tI) ((knot.take j).foldl (numSet (m : Int)) acc), .vl tI (m : Int), .vl (tTup tI) knot, .un]) _ (e_var 3) (Sub.refl _) rfl ?_ ?_ sc_knot_numbers.nd rfl)
    · rintro j k _ hj rfl
      have hkb := hk.2 k (List.mem_of_getElem? hj)
      have hal := numSets_len (m : Int) (knot.take j) acc
      rw [take_snoc hj, List.foldl_append]
      refine b_cons (s_seti 1 (m := k.toNat) rfl (TL.E.as (s := tI) (x := (m : Int)) (t := tO tI) (y := some (m : Int)) (e_var 2) (fun M v r => r)) (e_var 4) (ixNp (by omega) (by omega)) ?_)
      exact B.weak (b_nil rfl) (.same (.same (.same (.same (.un .nil)))))
    · rintro _ rfl
      rw [List.take_length]
      exact B.weak (b_nil rfl) (.same (.same (.un (.un (.un .nil)))))
  · rintro _ rfl
    refine b_freeze 1 rfl ?_
    exact b_cons (s_ret (e_tupL b.tuple (e_var 1)) (fun M v r => r))
end

def lineKM (kinds : List (List Int)) (knot : List Int) : Bool := knot.all fun k => decide (((ix kinds k).filter fun t => decide (t ∈ knot)).length = 1)
def spis_line_knot (K : Fg) : Sp := spG K (fun i : List (List Int) × List Int => [.vl (tTup (tTup tI)) i.1, .vl (tTup tI) i.2]) (fun i => Good i.1 1000 1000 ∧ ∀ k ∈ i.2, 0 ≤ k ∧ k < i.1.length) tB (fun i => lineKM i.1 i.2)
section
variable {P : Program} {w : World} {K : Fg} {mg : Str → Option Value} {base : Heap}
theorem sc_is_line_knot : FnScope ["kinds", "knot", "kind", "target"] ["kinds", "knot"] (defScope sis_line_knot) := ⟨rfl, rfl, rfl, by decide +kernel, rfl, by decide +kernel, by decide +kernel⟩
theorem okis_line_knot {f : Addr} {fd : FuncData} (F : Fun K "is_line_knot" "is_line_knot" sis_line_knot f fd) (b : Bi mg) : FnOk P w K mg base CX0 1 f fd ["kinds", "knot"] (spis_line_knot K) := by
  refine fn_ok F sc_is_line_knot 2 rfl (fun _ => rfl) (fun cdv A outer s H E hr ⟨kinds, knot⟩ hp => ?_)
  dsimp only at hp ⊢
  obtain ⟨hg, hk⟩ := hp
  refine b_cons (s_forT 2 (fun m G' => (∀ o ∈ knot.take m, decide (((ix kinds o).filter fun t => decide (t ∈ knot)).length = 1) = true) ∧ G' = [.vl (tTup (tTup tI)) kinds, .vl (tTup tI) knot, .un, .un]) _ (e_var 1) (Sub.refl _) ⟨fun o h => by simp at h, rfl⟩ ?_ ?_ sc_is_line_knot.nd rfl)
  · rintro m o _ hm ⟨hI, rfl⟩
    have hom := List.mem_of_getElem? hm
    have ho := hk o hom
    have hrow := (hg.row _ (ix_mem (xs := kinds) (i := o) (by omega) (by omega))).1
    refine b_cons (s_if (t_cv (e_lenL b.len (EL.toE (el_lc (lc_TF (f := fun x => x) (g := fun t => decide (t ∈ knot)) (own := [("target", 3)]) (e_ixT (e_var 0) (e_var 2) (atI_ix (by omega) (by omega))) 3 (fun s0 H C cl fp j x hx => t_cv (e_var 3) (e_var 1) cv_inT) (fun s0 H C cl fp j x hx hd => e_var 3) (blkOk_by (N := ["kinds", "knot", "kind", "target"]) (sc := defScope sis_line_knot) (by decide +kernel)) (by omega) (fun _ _ _ _ _ => pg_name sc_is_line_knot.nd rfl (by first | exact Or.inl rfl | exact Or.inr rfl))) rfl sc_is_line_knot.nd))) e_int cv_neI) (fun h => ?_) (fun h => ?_))
    · rw [List.map_id'] at h
      refine b_cons (s_ret e_bl (fun M v r => ret_is r ?_))
      cases q : lineKM kinds knot with
      | false => rfl
      | true =>
        have := of_decide_eq_true (List.all_eq_true.mp q o hom)
        rw [this] at h; cases h
    · rw [List.map_id'] at h
      refine b_nil (B.weak (b_nil ⟨fun o' ho' => ?_, rfl⟩) (.same (.same (.un (.un .nil)))))
      rw [take_snoc hm] at ho'
      rcases List.mem_append.mp ho' with z | z
      · exact hI o' z
      · rw [List.mem_singleton.mp z]
        have h : ((((ix kinds o).filter fun t => decide (t ∈ knot)).length : Int) = 1) := by simpa using h
        exact decide_eq_true (by omega)
  · rintro _ ⟨hI, rfl⟩
    rw [List.take_length] at hI
    exact b_cons (s_ret e_bl (fun M v r => ret_is r (List.all_eq_true.mpr hI)))
end

noncomputable def linesM (kinds : List (List Int)) : List Bool := (knotsM kinds).map fun knot => lineKM kinds knot
noncomputable def spline_flags (K : Fg) : Sp := spG K (fun i : List (List Int) => [.vl (tTup (tTup tI)) i]) (fun i => Good i 1000 1000) (tTup tB) (fun i => linesM i)
section
variable {P : Program} {w : World} {K : Fg} {mg : Str → Option Value} {base : Heap}
theorem sc_line_flags : FnScope ["kinds", "knot"] ["kinds"] (defScope sline_flags) := ⟨rfl, rfl, rfl, by decide +kernel, rfl, by decide +kernel, by decide +kernel⟩
theorem okline_flags {f : Addr} {fd : FuncData} (F : Fun K "line_flags" "line_flags" sline_flags f fd) (b : Bi mg) (Cknot_list : Fn P w K mg base CX0 3 "knot_list" ["kinds"] (spknot_list K)) (Cis_line_knot : Fn P w K mg base CX0 1 "is_line_knot" ["kinds", "knot"] (spis_line_knot K)) : FnOk P w K mg base CX0 4 f fd ["kinds"] (spline_flags K) := by
  refine fn_ok F sc_line_flags 1 rfl (fun _ => rfl) (fun cdv A outer s H E hr kinds hg => ?_)
  have hlen := hg.len
  have hkl := knots_len hg (by omega)
  have hin := knots_in hg (by omega)
  exact b_cons (s_ret (e_tupL b.tuple (EL.toE (el_lc (lc_T (f := fun knot => lineKM kinds knot) (xs := knotsM kinds) (own := [("knot", 1)]) (e_call Cknot_list (hr.mono (by decide)) kinds (ea_cons (e_var 0) ea_nil) hg) 1 (fun s0 H C cl fp m x hx => e_call Cis_line_knot (hr.mono (by decide)) (kinds, x) (ea_cons (e_var 0) (ea_cons (e_var 1) ea_nil)) (show Good kinds 1000 1000 ∧ ∀ k ∈ x, 0 ≤ k ∧ k < kinds.length from ⟨hg, (hin x (List.mem_of_getElem? hx)).2⟩)) (blkOk_by (N := ["kinds", "knot"]) (sc := defScope sline_flags) (by decide +kernel)) (by omega) (fun _ _ _ _ _ => pg_name sc_line_flags.nd rfl (by first | exact Or.inl rfl | exact Or.inr rfl))) rfl sc_line_flags.nd))) (fun M v r => r))
end

def bookFs (ks : List (List Int)) : List (Str × Cl) := [("kinds", ⟨tTup (tTup tI), ks⟩)]
abbrev tBook (C : Addr) : Ty (List (List Int)) := tOb C bookFs
theorem e_kinds {X : Cx} {G : List Sl} {a : Expr} {pos : Pos} {C : Addr} {ks : List (List Int)} (he : E X G a (tBook C) ks) (hC : Cls X.K C) (hna : NoAttr X.K C "kinds") (hb : attributeBase a "kinds" X.env (eval a X.env) = eval a X.env := by rfl) : E X G (.Attribute a "kinds" pos) (tTup (tTup tI)) ks :=
  e_fld (cl := ⟨tTup (tTup tI), ks⟩) he hC hna rfl hb

noncomputable def spknots (K : Fg) (C : Addr) : Sp := spG K (fun i : List (List Int) => [.vl (tBook C) i]) (fun i => Good i 1000 1000) (tTup (tTup tI)) (fun i => knotsM i)
noncomputable def spknot_of (K : Fg) (C : Addr) : Sp := spG K (fun i : List (List Int) × Int => [.vl (tBook C) i.1, .vl tI i.2]) (fun i => Good i.1 1000 1000 ∧ 0 ≤ i.2 ∧ i.2 < i.1.length) (tO tI) (fun i => ix (numbersM i.1) i.2)
noncomputable def spis_line (K : Fg) (C : Addr) : Sp := spG K (fun i : List (List Int) × Int => [.vl (tBook C) i.1, .vl tI i.2]) (fun i => Good i.1 1000 1000 ∧ 0 ≤ i.2 ∧ i.2 < (knotsM i.1).length) tB (fun i => ix (linesM i.1) i.2)
noncomputable def passM (kinds : List (List Int)) : List Int := ((List.range kinds.length).filter fun k : Nat => decide (ix (numbersM kinds) (k : Int) = none)).map fun k : Nat => (k : Int)
noncomputable def sppassing_kinds (K : Fg) (C : Addr) : Sp := spG K (fun i : List (List Int) => [.vl (tBook C) i]) (fun i => Good i 1000 1000) (tTup tI) (fun i => passM i)
theorem none_is {K : Fg} {M : Hp} {v : V} {x : Option Int} (r : (tO tI).rep K M v x) : decide (v = V.non) = decide (x = none) := by
  cases x with
  | none => have : v = V.non := r; rw [this]; rfl
  | some y => have : v = V.int y := r; rw [this]; rfl
theorem numbersM_len (kinds : List (List Int)) : (numbersM kinds).length = kinds.length := numUpTo_len _ _ _
section
variable {P : Program} {w : World} {K : Fg} {mg : Str → Option Value} {base : Heap}
theorem sc_knots : FnScope ["book"] ["book"] (defScope sknots) := ⟨rfl, rfl, rfl, by decide +kernel, rfl, by decide +kernel, by decide +kernel⟩
theorem okknots {C : Addr} (hC : Cls K C) (hna : NoAttr K C "kinds") {f : Addr} {fd : FuncData} (F : Fun K "knots" "knots" sknots f fd) (b : Bi mg) (Cknot_list : Fn P w K mg base CX0 3 "knot_list" ["kinds"] (spknot_list K)) : FnOk P w K mg base CX0 4 f fd ["book"] (spknots K C) := by
  refine fn_ok F sc_knots 0 rfl (fun _ => rfl) (fun cdv A outer s H E hr book hg => ?_)
  exact b_cons (s_ret (e_call Cknot_list (hr.mono (by decide)) book (ea_cons (e_kinds (e_var 0) hC hna) ea_nil) hg) (fun M v r => r))
theorem sc_knot_of : FnScope ["book", "kind"] ["book", "kind"] (defScope sknot_of) := ⟨rfl, rfl, rfl, by decide +kernel, rfl, by decide +kernel, by decide +kernel⟩
theorem okknot_of {C : Addr} (hC : Cls K C) (hna : NoAttr K C "kinds") {f : Addr} {fd : FuncData} (F : Fun K "knot_of" "knot_of" sknot_of f fd) (b : Bi mg) (Cknot_numbers : Fn P w K mg base CX0 4 "knot_numbers" ["kinds"] (spknot_numbers K)) : FnOk P w K mg base CX0 5 f fd ["book", "kind"] (spknot_of K C) := by
  refine fn_ok F sc_knot_of 0 rfl (fun _ => rfl) (fun cdv A outer s H E hr ⟨book, kind⟩ hp => ?_)
  dsimp only at hp ⊢
  obtain ⟨hg, k0, k1⟩ := hp
  have hl := numbersM_len book
  exact b_cons (s_ret (e_ixT (xs := numbersM book) (e_call Cknot_numbers (hr.mono (by decide)) book (ea_cons (e_kinds (e_var 0) hC hna) ea_nil) hg) (e_var 1) (atI_ix (by omega) (by omega))) (fun M v r => r))
theorem sc_is_line : FnScope ["book", "knot"] ["book", "knot"] (defScope sis_line) := ⟨rfl, rfl, rfl, by decide +kernel, rfl, by decide +kernel, by decide +kernel⟩
theorem okis_line {C : Addr} (hC : Cls K C) (hna : NoAttr K C "kinds") {f : Addr} {fd : FuncData} (F : Fun K "is_line" "is_line" sis_line f fd) (b : Bi mg) (Cline_flags : Fn P w K mg base CX0 4 "line_flags" ["kinds"] (spline_flags K)) : FnOk P w K mg base CX0 5 f fd ["book", "knot"] (spis_line K C) := by
  refine fn_ok F sc_is_line 0 rfl (fun _ => rfl) (fun cdv A outer s H E hr ⟨book, kind⟩ hp => ?_)
  dsimp only at hp ⊢
  obtain ⟨hg, k0, k1⟩ := hp
  have hl : (linesM book).length = (knotsM book).length := by unfold linesM; rw [List.length_map]
  exact b_cons (s_ret (e_ixT (xs := linesM book) (e_call Cline_flags (hr.mono (by decide)) book (ea_cons (e_kinds (e_var 0) hC hna) ea_nil) hg) (e_var 1) (atI_ix (by omega) (by omega))) (fun M v r => r))
theorem sc_passing_kinds : FnScope ["book", "numbers", "kind"] ["book"] (defScope spassing_kinds) := ⟨rfl, rfl, rfl, by decide +kernel, rfl, by decide +kernel, by decide +kernel⟩
theorem okpassing_kinds {C : Addr} (hC : Cls K C) (hna : NoAttr K C "kinds") {f : Addr} {fd : FuncData} (F : Fun K "passing_kinds" "passing_kinds" spassing_kinds f fd) (b : Bi mg) (Cknot_numbers : Fn P w K mg base CX0 4 "knot_numbers" ["kinds"] (spknot_numbers K)) : FnOk P w K mg base CX0 5 f fd ["book"] (sppassing_kinds K C) := by
  refine fn_ok F sc_passing_kinds 2 rfl (fun _ => rfl) (fun cdv A outer s H E hr book hg => ?_)
  have hl := numbersM_len book
  have hlen := hg.len
  refine b_cons (s_set 1 (e_call Cknot_numbers (hr.mono (by decide)) book (ea_cons (e_kinds (e_var 0) hC hna) ea_nil) hg) ?_ sc_passing_kinds.nd)
  refine b_cons (s_ret (e_tupL b.tuple (EL.toE (el_lc (lc_RF (f := fun k : Nat => (k : Int)) (g := fun k : Nat => decide (ix (numbersM book) (k : Int) = none)) (own := [("kind", 2)]) b.range (e_lenT b.len (e_var 1)) (by omega) 2 (fun s0 H C cl fp m hm => t_cv (e_ixT (e_var 1) (e_var 2) (atI_ix (by omega) (by omega))) e_non (cv_isN (fun _ v r => ?_))) (fun s0 H C cl fp m hm hd => e_var 2) (blkOk_by (N := ["book", "numbers", "kind"]) (sc := defScope spassing_kinds) (by decide +kernel)) (fun _ _ _ _ _ => pg_name sc_passing_kinds.nd rfl (by first | exact Or.inl rfl | exact Or.inr rfl))) rfl sc_passing_kinds.nd))) (fun M v r => ret_is r ?_))
  · exact none_is r
  · unfold passM; rw [← hl, Int.toNat_natCast]
end

/-! the number of a kind is that of the one knot that holds it -/
theorem numSets_ix (m : Int) : ∀ (ks : List Int) (a : List (Option Int)) (k : Nat), k < a.length → (∀ t ∈ ks, 0 ≤ t) → (ks.foldl (numSet m) a)[k]? = if (k : Int) ∈ ks then some (some m) else a[k]?
  | [], a, k, _, _ => by rw [List.foldl_nil, if_neg (by simp)]
  | t :: ks, a, k, hk, h0 => by
    have t0 := h0 t (List.mem_cons_self ..)
    rw [List.foldl_cons, numSets_ix m ks _ k (by unfold numSet; rw [List.length_set]; exact hk) fun u hu => h0 u (List.mem_cons_of_mem _ hu)]
    by_cases z : (k : Int) ∈ ks
    · rw [if_pos z, if_pos (List.mem_cons_of_mem _ z)]
    · rw [if_neg z]
      unfold numSet
      by_cases y : (k : Int) = t
      · rw [if_pos (by rw [y]; exact List.mem_cons_self ..), show t.toNat = k by omega, List.getElem?_set_self hk]
      · rw [if_neg (fun q => (List.mem_cons.mp q).elim y z), List.getElem?_set_ne (by omega)]
def holds (knots : List (List Int)) (k : Int) (m : Nat) : List Nat := (List.range m).filter fun j : Nat => decide (k ∈ ix knots (j : Int))
theorem numUpTo_get (knots : List (List Int)) (n : Nat) (h0 : ∀ x ∈ knots, ∀ t ∈ x, (0 : Int) ≤ t) (k : Nat) (hk : k < n) : ∀ m : Nat, m ≤ knots.length → (numUpTo knots n m)[k]? = some ((holds knots k m).getLast?.map fun j : Nat => (j : Int))
  | 0, _ => by
    show (List.replicate n none)[k]? = _
    rw [List.getElem?_replicate, if_pos hk]; rfl
  | m + 1, hm => by
    have hx : ∀ t ∈ ix knots (m : Int), (0 : Int) ≤ t := h0 _ (ix_mem (xs := knots) (i := (m : Int)) (by omega) (by omega))
    rw [numUpTo_succ, numSets_ix _ _ _ _ (by rw [numUpTo_len]; exact hk) hx, numUpTo_get knots n h0 k hk m (by omega)]
    unfold holds
    rw [List.range_succ, List.filter_append]
    by_cases z : (k : Int) ∈ ix knots (m : Int)
    · rw [if_pos z, List.filter_cons_of_pos (by simpa using z)]; simp
    · rw [if_neg z, List.filter_cons_of_neg (by simpa using z)]; simp
theorem one_head {α : Type} : ∀ {xs : List α}, xs.length ≤ 1 → xs.getLast? = xs.head?
  | [], _ => rfl
  | [_], _ => rfl
  | _ :: _ :: _, h => by simp at h
def klH (tb : List (List Bool)) : Nat → List Int → List Int
  | 0, _ => []
  | n + 1, ws => if ws.isEmpty then [] else nextHM tb ws :: klH tb n (ws.filter fun h => !decide (h = nextHM tb ws))
theorem klM_klH (tb : List (List Bool)) : ∀ (n : Nat) (ws : List Int), klM tb n ws = (klH tb n ws).map (aroundM tb)
  | 0, _ => rfl
  | n + 1, ws => by
    unfold klM klH
    split
    · rfl
    · rw [List.map_cons, klM_klH tb n]
theorem klH_sub (tb : List (List Bool)) : ∀ (n : Nat) (ws : List Int), ∀ h ∈ klH tb n ws, h ∈ ws
  | 0, ws, h, hh => by cases hh
  | n + 1, ws, h, hh => by
    unfold klH at hh
    split at hh
    · cases hh
    · rename_i q
      rcases List.mem_cons.mp hh with z | z
      · rw [z]
        exact nextHM_mem (by cases ws with | nil => exact absurd rfl q | cons x xs => simp)
      · exact (List.mem_filter.mp (klH_sub tb n _ h z)).1
theorem klH_nodup (tb : List (List Bool)) : ∀ (n : Nat) (ws : List Int), (klH tb n ws).Nodup
  | 0, ws => List.nodup_nil
  | n + 1, ws => by
    unfold klH
    split
    · exact List.nodup_nil
    · refine List.nodup_cons.mpr ⟨fun h => ?_, klH_nodup tb n _⟩
      have := (List.mem_filter.mp (klH_sub tb n _ _ h)).2
      simp at this
theorem around_disj {tb : List (List Bool)} (T : Trn tb) {a b x : Int} (ha : Hd tb a) (hb : Hd tb b) (h1 : x ∈ aroundM tb a) (h2 : x ∈ aroundM tb b) : a = b := by
  obtain ⟨o, ho, rfl, r1, r2⟩ := mem_around.mp h1
  obtain ⟨o', ho', e, r3, r4⟩ := mem_around.mp h2
  have : o = o' := by omega
  subst this
  exact hd_eq T ha hb (T.tr a o b ha.b ⟨by omega, by omega⟩ hb.b r1 r4) (T.tr b o a hb.b ⟨by omega, by omega⟩ ha.b r3 r2)
theorem knots_disj {kinds : List (List Int)} {n e : Int} (h : Good kinds n e) (hn : n ≤ 1000) {i j : Nat} {x : Int} (hi : i < (knotsM kinds).length) (hj : j < (knotsM kinds).length) (h1 : x ∈ ix (knotsM kinds) (i : Int)) (h2 : x ∈ ix (knotsM kinds) (j : Int)) : i = j := by
  have T := reach_trn h hn
  have hd := heads_hd (tb := reachTab kinds)
  have e : knotsM kinds = (klH (reachTab kinds) (headsM (reachTab kinds)).length (headsM (reachTab kinds))).map (aroundM (reachTab kinds)) := klM_klH _ _ _
  have nd := klH_nodup (reachTab kinds) (headsM (reachTab kinds)).length (headsM (reachTab kinds))
  have sb := klH_sub (reachTab kinds) (headsM (reachTab kinds)).length (headsM (reachTab kinds))
  rw [e] at h1 h2 hi hj
  generalize klH (reachTab kinds) (headsM (reachTab kinds)).length (headsM (reachTab kinds)) = hs at nd sb h1 h2 hi hj
  rw [List.length_map] at hi hj
  have gi : ix (hs.map (aroundM (reachTab kinds))) (i : Int) = aroundM (reachTab kinds) hs[i] := ix_getElem (by omega) (by rw [Int.toNat_natCast, List.getElem?_map, List.getElem?_eq_getElem hi]; rfl)
  have gj : ix (hs.map (aroundM (reachTab kinds))) (j : Int) = aroundM (reachTab kinds) hs[j] := ix_getElem (by omega) (by rw [Int.toNat_natCast, List.getElem?_map, List.getElem?_eq_getElem hj]; rfl)
  rw [gi] at h1
  rw [gj] at h2
  have := around_disj T (hd _ (sb _ (List.getElem_mem hi))) (hd _ (sb _ (List.getElem_mem hj))) h1 h2
  exact (List.getElem_inj nd).mp this
theorem filter_one_of {α : Type} {p : α → Bool} : ∀ {xs : List α}, xs.Nodup → (∀ a ∈ xs, ∀ b ∈ xs, p a = true → p b = true → a = b) → (xs.filter p).length ≤ 1
  | [], _, _ => by simp
  | x :: xs, nd, h => by
    obtain ⟨n1, n2⟩ := List.nodup_cons.mp nd
    cases hp : p x with
    | false =>
      rw [List.filter_cons_of_neg (by rw [hp]; decide)]
      exact filter_one_of n2 fun a ha b hb => h a (List.mem_cons_of_mem _ ha) b (List.mem_cons_of_mem _ hb)
    | true =>
      rw [List.filter_cons_of_pos hp]
      have : xs.filter p = [] := List.filter_eq_nil_iff.mpr fun a ha q => n1 (by rw [h x (List.mem_cons_self ..) a (List.mem_cons_of_mem _ ha) hp q]; exact ha)
      rw [this]; simp
theorem number_is {kinds : List (List Int)} {n e : Int} (h : Good kinds n e) (hn : n ≤ 1000) {k : Int} (h0 : 0 ≤ k) (h1 : k < kinds.length) : ix (numbersM kinds) k = (holds (knotsM kinds) k (knotsM kinds).length).head?.map fun j : Nat => (j : Int) := by
  have hin := knots_in h hn
  apply ix_getElem h0
  unfold numbersM
  have q := numUpTo_get (knotsM kinds) kinds.length (fun x hx t ht => ((hin x hx).2 t ht).1) k.toNat (by omega) (knotsM kinds).length (Nat.le_refl _)
  rw [show ((k.toNat : Nat) : Int) = k by omega] at q
  rw [q, one_head]
  unfold holds
  refine filter_one_of List.nodup_range fun a ha b hb pa pb => ?_
  exact knots_disj h hn (List.mem_range.mp ha) (List.mem_range.mp hb) (of_decide_eq_true pa) (of_decide_eq_true pb)
/-- the first of a list, None behind it -/
theorem head_none (xs : List Nat) : ix ((xs.map fun j : Nat => some (j : Int)) ++ [none]) 0 = xs.head?.map fun j : Nat => (j : Int) := by
  cases xs with
  | nil => exact ix_getElem (by omega) rfl
  | cons x xs => exact ix_getElem (by omega) rfl
theorem pass_is {kinds : List (List Int)} {n e : Int} (h : Good kinds n e) (hn : n ≤ 1000) : passM kinds = ((List.range kinds.length).filter fun k : Nat => !decide ((k : Int) ∈ (knotsM kinds).flatten)).map fun k : Nat => (k : Int) := by
  unfold passM
  congr 1
  apply List.filter_congr
  intro k hk
  have hk := List.mem_range.mp hk
  rw [number_is h hn (k := (k : Int)) (by omega) (by omega), Bool.eq_iff_iff, decide_eq_true_eq, Bool.not_eq_true', decide_eq_false_iff_not]
  rw [Option.map_eq_none_iff, List.head?_eq_none_iff]
  unfold holds
  rw [List.filter_eq_nil_iff]
  constructor
  · intro q z
    obtain ⟨x, hx, hkx⟩ := List.mem_flatten.mp z
    obtain ⟨j, hj, rfl⟩ := List.mem_iff_getElem.mp hx
    refine q j (List.mem_range.mpr hj) (decide_eq_true ?_)
    rw [show ix (knotsM kinds) (j : Int) = (knotsM kinds)[j] from ix_getElem (by omega) (by rw [Int.toNat_natCast]; exact List.getElem?_eq_getElem hj)]
    exact hkx
  · intro q j hj z
    have hj := List.mem_range.mp hj
    exact q (List.mem_flatten.mpr ⟨_, ix_mem (xs := knotsM kinds) (i := (j : Int)) (by omega) (by omega), of_decide_eq_true z⟩)
theorem line_ix {kinds : List (List Int)} {j : Int} (h0 : 0 ≤ j) (h1 : j < (knotsM kinds).length) : ix (linesM kinds) j = lineKM kinds (ix (knotsM kinds) j) := by
  apply ix_getElem h0
  unfold linesM
  rw [List.getElem?_map, ix_pos h0 h1]; rfl

section
variable {P : Program} {w : World} {K : Fg} {mg : Str → Option Value} {base : Heap}
theorem sc_law_whole : FnScope ["value"] ["value"] (defScope s_law_whole) := ⟨rfl, rfl, rfl, by decide +kernel, rfl, by decide +kernel, by decide +kernel⟩
theorem ok_law_whole {f : Addr} {fd : FuncData} (F : Fun K "_law_whole" "_law_whole" s_law_whole f fd) (b : Bi mg) : FnOk P w K mg base CX0 1 f fd ["value"] (spWhole K) := by
  refine fn_ok F sc_law_whole 0 rfl (fun _ => rfl) (fun cdv A outer s H E hr d hp => ?_)
  refine b_cons (s_ret (e_and (e_isD (dd := d) b.isinstance (e_var 0) (e_Tint b.int) (fun _ _ r => r) (kbI d)) (fun _ => e_one (e_not (e_isD (dd := d) b.isinstance (e_var 0) (e_Tbool b.bool) (fun _ _ r => r) (kbB d))))) (fun M v r => ?_))
  exact ret_is r (wholeD_eq d)
end

def sp_law_number (K : Fg) : Sp := spG K (fun i : Option Int × Option Int => [.vl (tO tI) i.1, .vl (tO tI) i.2]) (fun i => i.1 = i.2) tB (fun i => true)
theorem noneO {K : Fg} {M : Hp} {v : V} {x : Option Int} (r : (tO tI).rep K M v x) : decide (v = V.non) = decide (x = none) := by
  cases x with
  | none => have : v = V.non := r; rw [this]; rfl
  | some y => have : v = V.int y := r; rw [this]; rfl
section
variable {P : Program} {w : World} {K : Fg} {mg : Str → Option Value} {base : Heap}
theorem sc_law_number : FnScope ["told", "due"] ["told", "due"] (defScope s_law_number) := ⟨rfl, rfl, rfl, by decide +kernel, rfl, by decide +kernel, by decide +kernel⟩
theorem ok_law_number {f : Addr} {fd : FuncData} (F : Fun K "_law_number" "_law_number" s_law_number f fd) (b : Bi mg) (C_law_whole : Fn P w K mg base CX0 1 "_law_whole" ["value"] (spWhole K)) : FnOk P w K mg base CX0 2 f fd ["told", "due"] (sp_law_number K) := by
  refine fn_ok F sc_law_number 0 rfl (fun _ => rfl) (fun cdv A outer s H E hr ⟨told, due⟩ hp => ?_)
  dsimp only at hp ⊢
  subst hp
  refine b_cons (s_if (t_cv (e_var 1) e_non (cv_isN (fun _ _ r => noneO r))) (fun h => ?_) (fun h => b_nil ?_))
  · exact b_cons (s_ret (e_cv (e_var 0) e_non (cv_isN (fun _ _ r => noneO r))) (fun M v r => ret_is r h.symm))
  · cases told with
    | none => cases h
    | some y =>
      exact b_cons (s_ret (e_and (e_call C_law_whole (hr.mono (by decide)) _ (ea_cons (TL.E.as (s := tO tI) (x := some y) (t := tD) (y := .int y) (e_var 0) (fun _ _ r => dp_I r)) ea_nil) trivial) (fun _ => e_one (e_cv (TL.E.as (s := tO tI) (x := some y) (t := tI) (y := y) (e_var 0) (fun _ _ r => r)) (TL.E.as (s := tO tI) (x := some y) (t := tI) (y := y) (e_var 1) (fun _ _ r => r)) cv_eqI))) (fun M v r => ret_is r (by simp [wholeD])))
end

def sp_law_flag (K : Fg) : Sp := spG K (fun i : Bool × Bool => [.vl tB i.1, .vl tB i.2]) (fun i => i.1 = i.2) tB (fun i => true)
section
variable {P : Program} {w : World} {K : Fg} {mg : Str → Option Value} {base : Heap}
theorem sc_law_flag : FnScope ["told", "due"] ["told", "due"] (defScope s_law_flag) := ⟨rfl, rfl, rfl, by decide +kernel, rfl, by decide +kernel, by decide +kernel⟩
theorem ok_law_flag {f : Addr} {fd : FuncData} (F : Fun K "_law_flag" "_law_flag" s_law_flag f fd) (b : Bi mg) : FnOk P w K mg base CX0 1 f fd ["told", "due"] (sp_law_flag K) := by
  refine fn_ok F sc_law_flag 0 rfl (fun _ => rfl) (fun cdv A outer s H E hr ⟨told, due⟩ hp => ?_)
  dsimp only at hp ⊢
  subst hp
  refine b_cons (s_if (t_val (e_var 1)) (fun h => ?_) (fun h => b_nil ?_))
  · exact b_cons (s_ret (e_cv (e_var 0) e_bl cv_isB) (fun M v r => ret_is r (by rw [h]; rfl)))
  · exact b_cons (s_ret (e_cv (e_var 0) e_bl cv_isB) (fun M v r => ret_is r (by rw [h]; rfl)))
end

def sp_law_one_each (K : Fg) : Sp := spG K (fun i : List (List Int) × List Int => [.vl (tTup (tTup tI)) i.1, .vl (tTup tI) i.2]) (fun i => Good i.1 1000 1000 ∧ ∀ k ∈ i.2, 0 ≤ k ∧ k < i.1.length) tB (fun i => lineKM i.1 i.2)
section
variable {P : Program} {w : World} {K : Fg} {mg : Str → Option Value} {base : Heap}
theorem sc_law_one_each : FnScope ["kinds", "knot", "k", "t"] ["kinds", "knot"] (defScope s_law_one_each) := ⟨rfl, rfl, rfl, by decide +kernel, rfl, by decide +kernel, by decide +kernel⟩
theorem ok_law_one_each {f : Addr} {fd : FuncData} (F : Fun K "_law_one_each" "_law_one_each" s_law_one_each f fd) (b : Bi mg) : FnOk P w K mg base CX0 1 f fd ["kinds", "knot"] (sp_law_one_each K) := by
  refine fn_ok F sc_law_one_each 2 rfl (fun _ => rfl) (fun cdv A outer s H E hr ⟨kinds, knot⟩ hp => ?_)
  dsimp only at hp ⊢
  obtain ⟨hg, hk⟩ := hp
  refine b_cons (s_forT 2 (fun m G' => (∀ o ∈ knot.take m, decide (((ix kinds o).filter fun t => decide (t ∈ knot)).length = 1) = true) ∧ G' = [.vl (tTup (tTup tI)) kinds, .vl (tTup tI) knot, .un, .un]) _ (e_var 1) (Sub.refl _) ⟨fun o h => by simp at h, rfl⟩ ?_ ?_ sc_law_one_each.nd rfl)
  · rintro m o _ hm ⟨hI, rfl⟩
    have hom := List.mem_of_getElem? hm
    have ho := hk o hom
    have hrow := (hg.row _ (ix_mem (xs := kinds) (i := o) (by omega) (by omega))).1
    refine b_cons (s_if (t_cv (e_lenL b.len (EL.toE (el_lc (lc_TF (f := fun x => x) (g := fun t => decide (t ∈ knot)) (own := [("t", 3)]) (e_ixT (e_var 0) (e_var 2) (atI_ix (by omega) (by omega))) 3 (fun s0 H C cl fp j x hx => t_cv (e_var 3) (e_var 1) cv_inT) (fun s0 H C cl fp j x hx hd => e_var 3) (blkOk_by (N := ["kinds", "knot", "k", "t"]) (sc := defScope s_law_one_each) (by decide +kernel)) (by omega) (fun _ _ _ _ _ => pg_name sc_law_one_each.nd rfl (by first | exact Or.inl rfl | exact Or.inr rfl))) rfl sc_law_one_each.nd))) e_int cv_neI) (fun h => ?_) (fun h => ?_))
    · rw [List.map_id'] at h
      refine b_cons (s_ret e_bl (fun M v r => ret_is r ?_))
      cases q : lineKM kinds knot with
      | false => rfl
      | true =>
        have := of_decide_eq_true (List.all_eq_true.mp q o hom)
        rw [this] at h; cases h
    · rw [List.map_id'] at h
      refine b_nil (B.weak (b_nil ⟨fun o' ho' => ?_, rfl⟩) (.same (.same (.un (.un .nil)))))
      rw [take_snoc hm] at ho'
      rcases List.mem_append.mp ho' with z | z
      · exact hI o' z
      · rw [List.mem_singleton.mp z]
        have h : ((((ix kinds o).filter fun t => decide (t ∈ knot)).length : Int) = 1) := by simpa using h
        exact decide_eq_true (by omega)
  · rintro _ ⟨hI, rfl⟩
    rw [List.take_length] at hI
    exact b_cons (s_ret e_bl (fun M v r => ret_is r (List.all_eq_true.mpr hI)))
end

def towerTargetM (digit : Int) (k : Int) (many : Int) : Int :=
  let way := (digit % 16)
  let rest := (digit / 16)
  if (decide (way = 0)) = true then ((rest % (many + 3)) - 3) else
  if ((decide (way < 4)) || (decide (k = (many - 1)))) = true then (ix [(-2), (-1), (-3), (-2), (-1)] (rest % 5)) else
  if (decide (way < 12)) = true then ((k + 1) + (rest % (if ((many - 1) - k) < 3 then ((many - 1) - k) else 3))) else
  ((k + 1) + (rest % ((many - 1) - k)))
def sp_law_tower_target (K : Fg) : Sp := spG K (fun i : Int × Int × Int => [.vl tI i.1, .vl tI i.2.1, .vl tI i.2.2]) (fun i => (0 ≤ i.2.1 ∧ i.2.1 < i.2.2) ∧ i.2.2 ≤ 1000) tI (fun i => towerTargetM i.1 i.2.1 i.2.2)
theorem tower_t (digit k many : Int) (h0 : 0 ≤ k) (h1 : k < many) : -3 ≤ towerTargetM digit k many ∧ towerTargetM digit k many < many := by
  unfold towerTargetM
  dsimp only
  generalize digit % 16 = way
  generalize digit / 16 = rest
  split
  · have a1 := Int.emod_nonneg rest (show many + 3 ≠ 0 by omega)
    have a2 := Int.emod_lt_of_pos rest (show 0 < many + 3 by omega)
    omega
  split
  · have a1 := Int.emod_nonneg rest (show (5 : Int) ≠ 0 by omega)
    have a2 := Int.emod_lt_of_pos rest (show (0 : Int) < 5 by omega)
    have : rest % 5 = 0 ∨ rest % 5 = 1 ∨ rest % 5 = 2 ∨ rest % 5 = 3 ∨ rest % 5 = 4 := by omega
    have v0 : ix ([-2, -1, -3, -2, -1] : List Int) 0 = -2 := rfl
    have v1 : ix ([-2, -1, -3, -2, -1] : List Int) 1 = -1 := rfl
    have v2 : ix ([-2, -1, -3, -2, -1] : List Int) 2 = -3 := rfl
    have v3 : ix ([-2, -1, -3, -2, -1] : List Int) 3 = -2 := rfl
    have v4 : ix ([-2, -1, -3, -2, -1] : List Int) 4 = -1 := rfl
    rcases this with q | q | q | q | q <;> rw [q] <;> first | rw [v0] | rw [v1] | rw [v2] | rw [v3] | rw [v4] 
    all_goals omega
  rename_i hn
  simp only [Bool.or_eq_true, decide_eq_true_eq, not_or] at hn
  split
  · have hm : 0 < (if many - 1 - k < 3 then many - 1 - k else 3) ∧ (if many - 1 - k < 3 then many - 1 - k else 3) ≤ many - 1 - k := by split <;> omega
    generalize (if many - 1 - k < 3 then many - 1 - k else 3) = q at hm
    have a1 := Int.emod_nonneg rest (show q ≠ 0 by omega)
    have a2 := Int.emod_lt_of_pos rest hm.1
    omega
  · have a1 := Int.emod_nonneg rest (show many - 1 - k ≠ 0 by omega)
    have a2 := Int.emod_lt_of_pos rest (show 0 < many - 1 - k by omega)
    omega
section
variable {P : Program} {w : World} {K : Fg} {mg : Str → Option Value} {base : Heap}
theorem sc_law_tower_target : FnScope ["digit", "k", "many", "way", "rest"] ["digit", "k", "many"] (defScope s_law_tower_target) := ⟨rfl, rfl, rfl, by decide +kernel, rfl, by decide +kernel, by decide +kernel⟩
theorem ok_law_tower_target {f : Addr} {fd : FuncData} (F : Fun K "_law_tower_target" "_law_tower_target" s_law_tower_target f fd) (b : Bi mg)  : FnOk P w K mg base CX0 1 f fd ["digit", "k", "many"] (sp_law_tower_target K) := by
  refine fn_ok F sc_law_tower_target 2 rfl (fun _ => rfl) (fun cdv A outer s H E hr ⟨digit, k, many⟩ hp => ?_)
  dsimp only at hp ⊢
  refine b_cons (s_set 3 (e_mod (e_intI b.int (e_var 0)) e_int (by first | decide | omega)) ?_ sc_law_tower_target.nd)
  refine b_cons (s_set 4 (e_div (e_intI b.int (e_var 0)) e_int (by first | decide | omega)) ?_ sc_law_tower_target.nd)
  refine b_cons (s_if (t_cv (e_var 3) e_int cv_eqI) (fun h1 => ?_) (fun h1 => ?_))
  · have h1p := h1; try simp only [Bool.and_eq_true, Bool.or_eq_true, Bool.and_eq_false_iff, Bool.or_eq_false_iff, Bool.not_eq_true', Bool.not_eq_false', decide_eq_true_eq, decide_eq_false_iff_not] at h1p
    refine b_cons (s_ret (e_sub (e_mod (e_intI b.int (e_var 4)) (e_add (e_var 2) e_int) (by first | decide | omega)) e_int) (fun M v r => ?_))
    exact ret_is r (by unfold towerTargetM; dsimp only; rw [if_pos h1])
  · have h1p := h1; try simp only [Bool.and_eq_true, Bool.or_eq_true, Bool.and_eq_false_iff, Bool.or_eq_false_iff, Bool.not_eq_true', Bool.not_eq_false', decide_eq_true_eq, decide_eq_false_iff_not] at h1p
    refine b_nil ?_
    refine b_cons (s_if (TW.toT (w_or (t_cv (e_var 3) e_int cv_lt) (fun h => (w_or1 (t_cv (e_var 1) (e_sub (e_var 2) e_int) cv_eqI))))) (fun h2 => ?_) (fun h2 => ?_))
    · have h2p := h2; try simp only [Bool.and_eq_true, Bool.or_eq_true, Bool.and_eq_false_iff, Bool.or_eq_false_iff, Bool.not_eq_true', Bool.not_eq_false', decide_eq_true_eq, decide_eq_false_iff_not] at h2p
      refine b_cons (s_ret (e_ixL (EL.toE (el_lst (eh_cons (e_neg e_int) (eh_cons (e_neg e_int) (eh_cons (e_neg e_int) (eh_cons (e_neg e_int) (eh_cons (e_neg e_int) eh_nil))))))) (e_mod (e_intI b.int (e_var 4)) e_int (by first | decide | omega)) (atI_ix (by first | decide | omega | (simp only [List.length_cons, List.length_nil]; omega)) (by first | decide | omega | (simp only [List.length_cons, List.length_nil]; omega)))) (fun M v r => ?_))
      exact ret_is r (by unfold towerTargetM; dsimp only; rw [if_neg (nt h1), if_pos h2])
    · have h2p := h2; try simp only [Bool.and_eq_true, Bool.or_eq_true, Bool.and_eq_false_iff, Bool.or_eq_false_iff, Bool.not_eq_true', Bool.not_eq_false', decide_eq_true_eq, decide_eq_false_iff_not] at h2p
      refine b_nil ?_
      refine b_cons (s_if (t_cv (e_var 3) e_int cv_lt) (fun h3 => ?_) (fun h3 => ?_))
      · have h3p := h3; try simp only [Bool.and_eq_true, Bool.or_eq_true, Bool.and_eq_false_iff, Bool.or_eq_false_iff, Bool.not_eq_true', Bool.not_eq_false', decide_eq_true_eq, decide_eq_false_iff_not] at h3p
        refine b_cons (s_ret (e_add (e_add (e_var 1) e_int) (e_mod (e_intI b.int (e_var 4)) (e_min rfl b.min e_int (e_sub (e_sub (e_var 2) e_int) (e_var 1))) (by first | decide | omega))) (fun M v r => ?_))
        exact ret_is r (by unfold towerTargetM; dsimp only; rw [if_neg (nt h1), if_neg (nt h2), if_pos h3])
      · have h3p := h3; try simp only [Bool.and_eq_true, Bool.or_eq_true, Bool.and_eq_false_iff, Bool.or_eq_false_iff, Bool.not_eq_true', Bool.not_eq_false', decide_eq_true_eq, decide_eq_false_iff_not] at h3p
        refine b_nil ?_
        refine b_cons (s_ret (e_add (e_add (e_var 1) e_int) (e_mod (e_intI b.int (e_var 4)) (e_sub (e_sub (e_var 2) e_int) (e_var 1)) (by first | decide | omega))) (fun M v r => ?_))
        exact ret_is r (by unfold towerTargetM; dsimp only; rw [if_neg (nt h1), if_neg (nt h2), if_neg (nt h3)])
end

def towerSizesM (n e : Int) : List Int := (([4 * n] ++ (List.replicate n.toNat [8]).flatten) ++ (List.replicate n.toNat [2 * e]).flatten) ++ (List.replicate (n * e).toNat [16 * (n + 3)]).flatten
structure GoodTower (row : List Int) (n e : Int) : Prop where
  len : (row.length : Int) = 1 + 2 * n + n * e
  h0 : 0 ≤ ix row 0 ∧ ix row 0 < 4 * n
  h1 : ∀ k : Int, 0 ≤ k → k < n → 0 ≤ ix row (1 + k) ∧ ix row (1 + k) < 8
theorem flat1 (n : Nat) (x : Int) : (List.replicate n [x]).flatten = List.replicate n x := by
  induction n with
  | zero => rfl
  | succ n ih => rw [List.replicate_succ, List.flatten_cons, ih]; rfl
theorem towerSizes_ok {n e : Int} (h0 : 2 ≤ n) (h1 : n ≤ 40) (h2 : 2 ≤ e) (h3 : e ≤ 20) : (towerSizesM n e).length ≤ 3000 ∧ ∀ s ∈ towerSizesM n e, 0 < s ∧ s < 1073741824 := by
  have hm := mul_le_800 (n := n) (e := e) (by omega) h1 (by omega) h3
  unfold towerSizesM
  rw [flat1, flat1, flat1]
  refine ⟨?_, fun s hs => ?_⟩
  · simp only [List.length_append, List.length_cons, List.length_nil, List.length_replicate]; omega
  · simp only [List.mem_append, List.mem_singleton, List.mem_replicate] at hs
    rcases hs with ((rfl | ⟨_, rfl⟩) | ⟨_, rfl⟩) | ⟨_, rfl⟩ <;> omega
theorem digits_tower {n e : Int} (c : Int) (h0 : 2 ≤ n) (h1 : n ≤ 40) (h2 : 2 ≤ e) (h3 : e ≤ 20) : GoodTower (digitsM c (towerSizesM n e)) n e := by
  have hm := mul_le_800 (n := n) (e := e) (by omega) h1 (by omega) h3
  have ok := towerSizes_ok h0 h1 h2 h3
  have p := dig_good c (towerSizesM n e) (fun s hs => (ok.2 s hs).1)
  have he : towerSizesM n e = 4 * n :: (List.replicate n.toNat 8 ++ (List.replicate n.toNat (2 * e) ++ List.replicate (n * e).toNat (16 * (n + 3)))) := by
    unfold towerSizesM; rw [flat1, flat1, flat1]; simp
  have hl : ((towerSizesM n e).length : Int) = 1 + 2 * n + n * e := by
    rw [he]; simp only [List.length_cons, List.length_append, List.length_replicate]; omega
  refine ⟨by rw [digits_len]; exact hl, ?_, fun k k0 k1 => ?_⟩
  · have := ix_paired p (i := 0) (by omega) (by omega)
    rw [show ix (towerSizesM n e) 0 = 4 * n by rw [he]; exact ix_getElem (by omega) rfl] at this
    exact this
  · have := ix_paired p (i := 1 + k) (by omega) (by omega)
    have e0 : ix (towerSizesM n e) (1 + k) = 8 := by
      apply ix_getElem (by omega)
      rw [he, show (1 + k).toNat = k.toNat + 1 by omega, List.getElem?_cons_succ, List.getElem?_append_left (by rw [List.length_replicate]; omega), List.getElem?_replicate, if_pos (by omega)]
    rw [e0] at this; exact this
def sp_law_tower_sizes (K : Fg) : Sp := spG K (fun i : Int × Int => [.vl tI i.1, .vl tI i.2]) (fun i => (2 ≤ i.1 ∧ i.1 ≤ 40) ∧ 2 ≤ i.2 ∧ i.2 ≤ 20) (tLst tI) (fun i => towerSizesM i.1 i.2)
section
variable {P : Program} {w : World} {K : Fg} {mg : Str → Option Value} {base : Heap}
theorem sc_law_tower_sizes : FnScope ["n", "e"] ["n", "e"] (defScope s_law_tower_sizes) := ⟨rfl, rfl, rfl, by decide +kernel, rfl, by decide +kernel, by decide +kernel⟩
theorem ok_law_tower_sizes {f : Addr} {fd : FuncData} (F : Fun K "_law_tower_sizes" "_law_tower_sizes" s_law_tower_sizes f fd) (b : Bi mg)  : FnOk P w K mg base CX0 1 f fd ["n", "e"] (sp_law_tower_sizes K) := by
  refine fn_ok F sc_law_tower_sizes 0 rfl (fun _ => rfl) (fun cdv A outer s H E hr ⟨n, e⟩ hp => ?_)
  dsimp only at hp ⊢
  obtain ⟨⟨h0, h1⟩, h2, h3⟩ := hp
  have hm := mul_le_800 (n := n) (e := e) (by omega) h1 (by omega) h3
  have l : ∀ (k : Nat) (x : Int), ((List.replicate k [x]).flatten).length = k := fun k x => by rw [flat1, List.length_replicate]
  refine b_cons (s_ret (EL.toE (el_cat (EL.toE (el_cat (EL.toE (el_cat (EL.toE (el_lst (eh_cons (e_mulL e_int (e_var 0) (by decide)) eh_nil))) (EL.toE (el_rep (EL.toE (el_lst (eh_cons e_int eh_nil))) (e_var 0) (by omega) (by simp only [List.length_cons, List.length_nil]; omega))) (by simp only [List.length_cons, List.length_nil, l]; omega))) (EL.toE (el_rep (EL.toE (el_lst (eh_cons (e_mulL e_int (e_var 1) (by decide)) eh_nil))) (e_var 0) (by omega) (by simp only [List.length_cons, List.length_nil]; omega))) (by simp only [List.length_append, List.length_cons, List.length_nil, l]; omega))) (EL.toE (el_rep (EL.toE (el_lst (eh_cons (e_mulL e_int (e_add (e_var 0) e_int) (by decide)) eh_nil))) (e_mulL (e_var 0) (e_var 1) (by omega)) (by omega) (by simp only [List.length_cons, List.length_nil]; omega))) (by simp only [List.length_append, List.length_cons, List.length_nil, l]; omega))) (fun M v r => ?_))
  exact r
end

theorem cut_from {α : Type} (xs : List α) {a : Int} (h : 0 ≤ a) : cut xs (some a) none = xs.drop a.toNat := by
  unfold cut
  have e1 : HT.sIx xs.length 0 (some a) = min a.toNat xs.length := if_neg (by omega)
  have e2 : HT.sIx xs.length xs.length none = xs.length := rfl
  rw [e1, e2]
  by_cases q : a.toNat ≤ xs.length
  · rw [Nat.min_eq_left q, List.take_of_length_le (by rw [List.length_drop]; omega)]
  · rw [Nat.min_eq_right (by omega), List.drop_of_length_le (Nat.le_refl _), List.drop_of_length_le (by omega)]; simp
theorem cut_upto {α : Type} (xs : List α) {a : Int} (h : 0 ≤ a) : cut xs none (some a) = xs.take a.toNat := by
  unfold cut
  have e1 : HT.sIx xs.length xs.length (some a) = min a.toNat xs.length := if_neg (by omega)
  have e2 : HT.sIx xs.length 0 none = 0 := rfl
  rw [e1, e2, List.drop_zero, Nat.sub_zero]
  by_cases q : a.toNat ≤ xs.length
  · rw [Nat.min_eq_left q]
  · rw [Nat.min_eq_right (by omega), List.take_of_length_le (Nat.le_refl _), List.take_of_length_le (by omega)]
theorem mul_lt' {k n e j : Int} (h0 : 0 ≤ k) (h1 : k < n) (h2 : 0 ≤ j) (h3 : j < e) : 0 ≤ k * e ∧ k * e + j < n * e := by
  have a : (k + 1) * e ≤ n * e := Int.mul_le_mul_of_nonneg_right (by omega) (by omega)
  rw [Int.add_mul] at a
  have b := Int.mul_nonneg h0 (show 0 ≤ e by omega)
  omega
def rowOk (many e : Int) (r : List Int) : Prop := (r.length : Int) ≤ e ∧ ∀ t ∈ r, -3 ≤ t ∧ t < many
def sp_law_tower (K : Fg) : Sp := spE K (fun i : List Int × Int × Int => [.vl (tLst tI) i.1, .vl tI i.2.1, .vl tI i.2.2]) (fun i => ((2 ≤ i.2.1 ∧ i.2.1 ≤ 40) ∧ 4 ≤ i.2.2 ∧ i.2.2 ≤ 20) ∧ GoodTower i.1 i.2.1 i.2.2) (tTup (tTup tI)) (fun i y => Good y i.2.1 i.2.2)
section
variable {P : Program} {w : World} {K : Fg} {mg : Str → Option Value} {base : Heap}
theorem sc_law_tower : FnScope ["row", "n", "e", "many", "kinds", "back", "k", "form", "size", "own", "rest", "j", "whole", "turn"] ["row", "n", "e"] (defScope s_law_tower) := ⟨rfl, rfl, rfl, by decide +kernel, rfl, by decide +kernel, by decide +kernel⟩
theorem ok_law_tower {f : Addr} {fd : FuncData} (F : Fun K "_law_tower" "_law_tower" s_law_tower f fd) (b : Bi mg) (C_law_tower_target : Fn P w K mg base CX0 1 "_law_tower_target" ["digit", "k", "many"] (sp_law_tower_target K)) : FnOk P w K mg base CX0 2 f fd ["row", "n", "e"] (sp_law_tower K) := by
  refine fn_okE F sc_law_tower 11 rfl (fun _ => rfl) (fun cdv A outer s H E hr ⟨row, n, e⟩ hp => ?_)
  dsimp only at hp ⊢
  obtain ⟨⟨⟨n0, n1⟩, e0, e1⟩, hl, h0, h1⟩ := hp
  have hne := mul_le_800 (n := n) (e := e) (by omega) n1 (by omega) e1
  refine b_cons (s_set 3 (e_add e_int (e_ixL (e_var 0) e_int (atI_ix (by omega) (by omega)))) ?_ sc_law_tower.nd)
  refine b_cut (fun G' => ∃ many : Int, (1 ≤ many ∧ many ≤ n) ∧ G' = [.vl (tLst tI) row, .vl tI n, .vl tI e, .vl tI many, .un, .un, .un, .un, .un, .un, .un, .un, .un, .un]) (s_if (t_cv (e_ixL (e_var 0) e_int (atI_ix (by omega) (by omega))) (e_var 1) cv_ge) (fun h => ?_) (fun h => ?_)) ?_
  · refine b_cons (s_set 3 (e_sub (e_var 1) (e_mod (e_intI b.int (e_ixL (e_var 0) e_int (atI_ix (by omega) (by omega)))) (e_div (e_add (e_var 1) e_int) e_int (by omega)) (by omega))) ?_ sc_law_tower.nd)
    have a1 := Int.emod_nonneg (ix row 0) (show (n + 1) / 2 ≠ 0 by omega)
    have a2 := Int.emod_lt_of_pos (ix row 0) (show 0 < (n + 1) / 2 by omega)
    exact b_nil ⟨_, by omega, rfl⟩
  · have h' := of_decide_eq_false h
    exact b_nil ⟨_, by omega, rfl⟩
  rintro _ ⟨many, ⟨m0, m1⟩, rfl⟩
  refine b_cons (s_own 4 (el_lst (s := tTup tI) eh_nil) ?_ sc_law_tower.nd)
  refine b_cons (s_set 5 e_int ?_ sc_law_tower.nd)
  refine b_cons (s_forR 6 (fun m G' => ∃ (xs : List (List Int)) (back : Int), (xs.length = m ∧ ∀ r ∈ xs, rowOk many e r) ∧ ((back = 0 ∨ back = 1) ∧ (m = 0 → back = 0)) ∧ G' = [.vl (tLst tI) row, .vl tI n, .vl tI e, .vl tI many, .ow (tTup tI) xs, .vl tI back, .un, .un, .un, .un, .un, .un, .un, .un]) _ b.range (e_var 3) (by omega) (Sub.refl _) ⟨[], 0, ⟨rfl, fun r h => by cases h⟩, ⟨.inl rfl, fun _ => rfl⟩, rfl⟩ ?_ ?_ sc_law_tower.nd rfl)
  · rintro m _ hm ⟨xs, back, ⟨hxl, hx⟩, ⟨hb, hb0⟩, rfl⟩
    have hf := h1 (m : Int) (by omega) (by omega)
    refine b_cons (s_set 7 (e_ixL (e_var 0) (e_add e_int (e_var 6)) (atI_ix (by omega) (by omega))) ?_ sc_law_tower.nd)
    refine b_cons (s_set 8 (e_mod (e_intI b.int (e_ixL (e_var 0) (e_add (e_add e_int (e_var 1)) (e_var 6)) (atI_ix (by omega) (by omega)))) (e_add (e_var 2) e_int) (by omega)) ?_ sc_law_tower.nd)
    generalize ix row (1 + (m : Int)) = form at hf ⊢
    generalize ix row (1 + n + (m : Int)) % (e + 1) = size
    refine b_cut (fun G' => ∃ form size : Int, G' = [.vl (tLst tI) row, .vl tI n, .vl tI e, .vl tI many, .ow (tTup tI) xs, .vl tI back, .vl tI (m : Int), .vl tI form, .vl tI size, .un, .un, .un, .un, .un]) (s_if (t_cv (e_var 6) e_int cv_eqI) (fun h => ?_) (fun h => ?_)) ?_
    · refine b_cons (s_set 7 (e_ixL (EL.toE (el_lst (eh_cons e_int (eh_cons e_int (eh_cons e_int (eh_cons e_int (eh_cons e_int (eh_cons e_int (eh_cons e_int (eh_cons e_int eh_nil)))))))))) (e_var 7) (atI_ix (by omega) (by simp only [List.length_cons, List.length_nil]; omega))) ?_ sc_law_tower.nd)
      exact b_cons (s_set 8 (e_max rfl b.max e_int (e_var 8)) (b_nil ⟨_, _, rfl⟩) sc_law_tower.nd)
    · exact b_nil ⟨_, _, rfl⟩
    rintro _ ⟨form, size, rfl⟩
    refine b_cons (s_own 9 (el_rep (EL.toE (el_lst (eh_cons (e_sub (e_var 6) e_int) eh_nil))) (e_var 5) (by omega) (by simp only [List.length_cons, List.length_nil]; omega)) ?_ sc_law_tower.nd)
    rw [flat1]
    refine b_cons (s_set 5 e_int ?_ sc_law_tower.nd)
    have ho : (List.replicate back.toNat ((m : Int) - 1)).length ≤ 1 ∧ ∀ t ∈ List.replicate back.toNat ((m : Int) - 1), -3 ≤ t ∧ t < many := by
      refine ⟨by rw [List.length_replicate]; omega, fun t ht => ?_⟩
      rw [List.eq_of_mem_replicate ht]; omega
    generalize List.replicate back.toNat ((m : Int) - 1) = own at ho ⊢
    refine b_cut (fun G' => ∃ own : List Int, ((own.length ≤ 1 ∨ (own.length ≤ 2 ∧ (form ≠ 4 ∧ form ≠ 5) ∧ (form ≠ 6 ∨ (m : Int) = many - 1))) ∧ ∀ t ∈ own, -3 ≤ t ∧ t < many) ∧ G' = [.vl (tLst tI) row, .vl tI n, .vl tI e, .vl tI many, .ow (tTup tI) xs, .vl tI 0, .vl tI (m : Int), .vl tI form, .vl tI size, .ow tI own, .un, .un, .un, .un]) (s_if (t_read 9 rfl (TW.toT (w_or (t_cv (e_var 7) (EL.toE (el_lst (eh_cons e_int (eh_cons e_int (eh_cons e_int eh_nil))))) cv_inL) (fun h => w_or1 (TW.toT (w_and (t_cv (e_var 7) (EL.toE (el_lst (eh_cons e_int (eh_cons e_int eh_nil)))) cv_inL) (fun h => w_and (t_cv (e_var 6) (e_sub (e_var 3) e_int) cv_eqI) (fun h => w_and1 (t_cv (e_lenL b.len (e_var 9)) e_int cv_eqI))))))))) (fun h => ?_) (fun h => ?_)) ?_
    · refine b_cons (s_app 9 rfl (e_var 6) (by omega) ?_)
      have hq := h
      simp only [Bool.or_eq_true, Bool.and_eq_true, decide_eq_true_eq, List.mem_cons, List.not_mem_nil, or_false] at hq
      refine b_nil ⟨_, ⟨.inr ⟨by rw [List.length_append, List.length_singleton]; omega, by omega, by omega⟩, fun t ht => ?_⟩, rfl⟩
      rcases List.mem_append.mp ht with z | z
      · exact ho.2 t z
      · rw [List.mem_singleton.mp z]; omega
    · exact b_nil ⟨_, ⟨.inl ho.1, ho.2⟩, rfl⟩
    rintro _ ⟨own2, ho2, rfl⟩
    refine b_cut (fun G' => ∃ own : List Int, (((own.length ≤ 2 ∧ (own.length ≤ 1 ∨ form ≠ 6 ∨ (m : Int) = many - 1)) ∨ (own.length ≤ 3 ∧ (form = 4 ∨ form = 5))) ∧ ∀ t ∈ own, -3 ≤ t ∧ t < many) ∧ G' = [.vl (tLst tI) row, .vl tI n, .vl tI e, .vl tI many, .ow (tTup tI) xs, .vl tI 0, .vl tI (m : Int), .vl tI form, .vl tI size, .ow tI own, .un, .un, .un, .un]) (s_if (t_cv (e_var 7) (EL.toE (el_lst (eh_cons e_int (eh_cons e_int eh_nil)))) cv_inL) (fun h => ?_) (fun h => ?_)) ?_
    · refine b_cons (s_own 9 (el_read 9 rfl imm_I (el_cat (e_var 9) (EL.toE (el_lst (eh_cons (e_var 6) (eh_cons (e_var 6) eh_nil)))) (by simp only [List.length_cons, List.length_nil]; omega))) ?_ sc_law_tower.nd)
      have hq := h
      simp only [decide_eq_true_eq, List.mem_cons, List.not_mem_nil, or_false] at hq
      refine b_nil ⟨_, ⟨.inr ⟨by simp only [List.length_append, List.length_cons, List.length_nil]; omega, hq⟩, fun t ht => ?_⟩, rfl⟩
      rcases List.mem_append.mp ht with z | z
      · exact ho2.2 t z
      · simp only [List.mem_cons, List.not_mem_nil, or_false, or_self] at z; omega
    · exact b_nil ⟨_, ⟨.inl ⟨by omega, by omega⟩, ho2.2⟩, rfl⟩
    rintro _ ⟨own3, ho3, rfl⟩
    refine b_cut (fun G' => ∃ (own : List Int) (back : Int), ((own.length ≤ 3 ∧ ∀ t ∈ own, -3 ≤ t ∧ t < many) ∧ (back = 0 ∨ back = 1)) ∧ G' = [.vl (tLst tI) row, .vl tI n, .vl tI e, .vl tI many, .ow (tTup tI) xs, .vl tI back, .vl tI (m : Int), .vl tI form, .vl tI size, .ow tI own, .un, .un, .un, .un]) (s_if (TW.toT (w_and (t_cv (e_var 7) e_int cv_eqI) (fun h => w_and1 (t_cv (e_var 6) (e_sub (e_var 3) e_int) cv_lt)))) (fun h => ?_) (fun h => ?_)) ?_
    · have hq := h
      simp only [Bool.and_eq_true, decide_eq_true_eq] at hq
      obtain ⟨hq6, hk⟩ := hq
      refine b_cons (s_app 9 rfl (e_add (e_var 6) e_int) (by omega) ?_)
      refine b_cons (s_set 5 e_int (b_nil ⟨_, _, ⟨⟨by simp only [List.length_append, List.length_cons, List.length_nil]; omega, fun t ht => ?_⟩, .inr rfl⟩, rfl⟩) sc_law_tower.nd)
      rcases List.mem_append.mp ht with z | z
      · exact ho3.2 t z
      · rw [List.mem_singleton.mp z]; omega
    · exact b_nil ⟨_, _, ⟨⟨by omega, ho3.2⟩, .inl rfl⟩, rfl⟩
    rintro _ ⟨own4, bk, ⟨ho4, hbk⟩, rfl⟩
    have hix := fun (j : Nat) (hj : (j : Int) < e) => mul_lt' (k := (m : Int)) (n := n) (e := e) (j := (j : Int)) (by omega) (by omega) (by omega) hj
    have hix0 := mul_lt' (k := (m : Int)) (n := n) (e := e) (j := 0) (by omega) (by omega) (by omega) (by omega)
    refine b_cons (s_lc 10 (lc_R (f := fun j : Nat => towerTargetM (ix row (1 + 2 * n + (m : Int) * e + (j : Int))) (m : Int) many) (own := [("j", 11)]) b.range (e_var 2) (by omega) 11 (fun s0 H C cl fp j hj => (e_call C_law_tower_target (hr.mono (by decide)) (ix row (1 + 2 * n + (m : Int) * e + (j : Int)), (m : Int), many) (ea_cons (e_ixL (e_var 0) (e_add (e_add (e_add e_int (e_mulL e_int (e_var 1) (by decide))) (e_mulL (e_var 6) (e_var 2) (by omega))) (e_var 11)) (atI_ix (by have := hix j hj; omega) (by have := hix j hj; omega))) (ea_cons (e_var 6) (ea_cons (e_var 3) ea_nil))) (show (0 ≤ (m : Int) ∧ (m : Int) < many) ∧ many ≤ 1000 from ⟨by omega, by omega⟩))) (blkOk_by (N := ["row", "n", "e", "many", "kinds", "back", "k", "form", "size", "own", "rest", "j", "whole", "turn"]) (sc := defScope s_law_tower) (by decide +kernel)) (fun _ _ _ _ _ => pg_name sc_law_tower.nd rfl (by first | exact Or.inl rfl | exact Or.inr rfl))) ?_ rfl sc_law_tower.nd)
    refine b_freeze 10 rfl ?_
    have hrest : ∀ t ∈ (List.range e.toNat).map (fun j : Nat => towerTargetM (ix row (1 + 2 * n + (m : Int) * e + (j : Int))) (m : Int) many), -3 ≤ t ∧ t < many := fun t ht => by
      obtain ⟨j, _, rfl⟩ := List.mem_map.mp ht
      exact tower_t _ _ _ (by omega) (by omega)
    have hrl : ((List.range e.toNat).map (fun j : Nat => towerTargetM (ix row (1 + 2 * n + (m : Int) * e + (j : Int))) (m : Int) many)).length = e.toNat := by simp
    generalize (List.range e.toNat).map (fun j : Nat => towerTargetM (ix row (1 + 2 * n + (m : Int) * e + (j : Int))) (m : Int) many) = rest at hrest hrl ⊢
    have hw0 : 0 ≤ (if (if e - (own4.length : Int) < size then e - (own4.length : Int) else size) > 0 then (if e - (own4.length : Int) < size then e - (own4.length : Int) else size) else 0) ∧ (own4.length : Int) + (if (if e - (own4.length : Int) < size then e - (own4.length : Int) else size) > 0 then (if e - (own4.length : Int) < size then e - (own4.length : Int) else size) else 0) ≤ e := by
      split <;> split <;> omega
    have hcl : (cut rest none (some (if (if e - (own4.length : Int) < size then e - (own4.length : Int) else size) > 0 then (if e - (own4.length : Int) < size then e - (own4.length : Int) else size) else 0))).length ≤ rest.length := by
      rw [cut_upto rest hw0.1, List.length_take]; omega
    refine b_cons (s_own 12 (el_read 9 rfl imm_I (el_cat (e_var 9) (EL.toE (el_slice (e_var 10) eo_none (eo_some (e_max rfl b.max e_int (e_min rfl b.min (e_var 8) (e_sub (e_var 2) (e_lenL b.len (e_var 9)))))))) (by omega))) ?_ sc_law_tower.nd)
    have hwl : ((own4 ++ cut rest none (some (if (if e - (own4.length : Int) < size then e - (own4.length : Int) else size) > 0 then (if e - (own4.length : Int) < size then e - (own4.length : Int) else size) else 0))).length : Int) ≤ e := by
      rw [cut_upto rest hw0.1, List.length_append, List.length_take]; omega
    have hwt : ∀ t ∈ own4 ++ cut rest none (some (if (if e - (own4.length : Int) < size then e - (own4.length : Int) else size) > 0 then (if e - (own4.length : Int) < size then e - (own4.length : Int) else size) else 0)), -3 ≤ t ∧ t < many := fun t ht => by
      rcases List.mem_append.mp ht with z | z
      · exact ho4.2 t z
      · rw [cut_upto rest hw0.1] at z
        exact hrest t (List.mem_of_mem_take z)
    generalize own4 ++ cut rest none (some (if (if e - (own4.length : Int) < size then e - (own4.length : Int) else size) > 0 then (if e - (own4.length : Int) < size then e - (own4.length : Int) else size) else 0)) = whole at hwl hwt ⊢
    refine b_freeze 12 rfl ?_
    have hq : 0 < (if (whole.length : Int) > 1 then (whole.length : Int) else 1) := by split <;> omega
    refine b_cons (s_set 13 (e_mod (e_div (e_intI b.int (e_ixL (e_var 0) (e_add (e_add e_int (e_mulL e_int (e_var 1) (by decide))) (e_mulL (e_var 6) (e_var 2) (by omega))) (atI_ix (by omega) (by omega)))) e_int (by omega)) (e_max rfl b.max e_int (e_lenL b.len (e_var 12))) hq) ?_ sc_law_tower.nd)
    have htn := Int.emod_nonneg (ix row (1 + 2 * n + (m : Int) * e) / 16) (show (if (whole.length : Int) > 1 then (whole.length : Int) else 1) ≠ 0 by omega)
    generalize ix row (1 + 2 * n + (m : Int) * e) / 16 % (if (whole.length : Int) > 1 then (whole.length : Int) else 1) = turn at htn ⊢
    have hll : (cut whole (some turn) none).length + (cut whole none (some turn)).length = whole.length := by
      rw [cut_from whole htn, cut_upto whole htn, List.length_drop, List.length_take]; omega
    refine b_cons (s_app 4 rfl (e_tupL b.tuple (EL.toE (el_cat (EL.toE (el_slice (e_var 12) (eo_some (e_var 13)) eo_none)) (EL.toE (el_slice (e_var 12) eo_none (eo_some (e_var 13)))) (by omega)))) (by omega) ?_)
    refine B.weak (b_nil ⟨_, bk, ⟨by rw [List.length_append, hxl]; rfl, fun r hr => ?_⟩, ⟨hbk, fun z => by omega⟩, rfl⟩) (.same (.same (.same (.same (.same (.same (.un (.un (.un (.un (.un (.un (.un (.un .nil))))))))))))))
    rcases List.mem_append.mp hr with z | z
    · exact hx r z
    · rw [List.mem_singleton.mp z]
      refine ⟨by rw [List.length_append, hll]; exact hwl, fun t ht => ?_⟩
      rw [cut_from whole htn, cut_upto whole htn] at ht
      rcases List.mem_append.mp ht with z | z
      · exact hwt t (List.mem_of_mem_drop z)
      · exact hwt t (List.mem_of_mem_take z)
  · rintro _ ⟨xs, back, ⟨hxl, hx⟩, _, rfl⟩
    refine b_cons (s_ret (e_read 4 rfl (imm_T (imm_T imm_I)) (e_tupL b.tuple (e_var 4))) (fun M v r => ⟨xs, ⟨by omega, by omega, fun r hr => ?_⟩, r⟩))
    have := hx r hr
    rw [hxl]
    exact ⟨this.1, fun t ht => by have := this.2 t ht; omega⟩
end

def inR (many : Int) (xs : List Int) : Prop := ∀ t ∈ xs, 0 ≤ t ∧ t < many
theorem firstN_in {i : Int} : inR i (firstN i) := fun t ht => by
  obtain ⟨k, hk, rfl⟩ := List.mem_map.mp ht
  have := List.mem_range.mp hk
  omega
theorem firstN_len (i : Int) : (firstN i).length = i.toNat := by unfold firstN; simp
def sp_law_order (K : Fg) : Sp := spE K (fun i : List Int × Int => [.vl (tLst tI) i.1, .vl tI i.2]) (fun i => (0 ≤ i.2 ∧ i.2 ≤ 1000) ∧ i.2 ≤ i.1.length) (tLst tI) (fun i y => (y.length : Int) = i.2 ∧ inR i.2 y)
section
variable {P : Program} {w : World} {K : Fg} {mg : Str → Option Value} {base : Heap}
theorem sc_law_order : FnScope ["row", "many", "waiting", "told", "k", "at"] ["row", "many"] (defScope s_law_order) := ⟨rfl, rfl, rfl, by decide +kernel, rfl, by decide +kernel, by decide +kernel⟩
theorem ok_law_order {f : Addr} {fd : FuncData} (F : Fun K "_law_order" "_law_order" s_law_order f fd) (b : Bi mg) : FnOk P w K mg base CX0 1 f fd ["row", "many"] (sp_law_order K) := by
  refine fn_okE F sc_law_order 4 rfl (fun _ => rfl) (fun cdv A outer s H E hr ⟨row, many⟩ hp => ?_)
  dsimp only at hp ⊢
  obtain ⟨⟨h0, h1⟩, h2⟩ := hp
  refine b_cons (s_own 2 (el_listR rfl b.list b.range (e_var 1) (by omega)) ?_ sc_law_order.nd)
  refine b_cons (s_own 3 (el_lst (s := tI) eh_nil) ?_ sc_law_order.nd)
  refine b_cons (s_forR 4 (fun m G' => ∃ ws ts : List Int, (((ws.length : Int) = many - m ∧ inR many ws) ∧ ts.length = m ∧ inR many ts) ∧ G' = [.vl (tLst tI) row, .vl tI many, .ow tI ws, .ow tI ts, .un, .un]) _ b.range (e_var 1) (by omega) (Sub.refl _) ⟨firstN many, [], ⟨⟨by rw [firstN_len]; omega, firstN_in⟩, rfl, fun t h => by cases h⟩, rfl⟩ ?_ ?_ sc_law_order.nd rfl)
  · rintro m _ hm ⟨ws, ts, ⟨⟨hwl, hwi⟩, htl, hti⟩, rfl⟩
    refine b_cons (s_set 5 (e_read 2 rfl imm_I (e_mod (e_intI b.int (e_ixL (e_var 0) (e_var 4) (atI_ix (by omega) (by omega)))) (e_lenL b.len (e_var 2)) (by omega))) ?_ sc_law_order.nd)
    have a1 := Int.emod_nonneg (ix row (m : Int)) (show (ws.length : Int) ≠ 0 by omega)
    have a2 := Int.emod_lt_of_pos (ix row (m : Int)) (show 0 < (ws.length : Int) by omega)
    generalize ix row (m : Int) % (ws.length : Int) = at' at a1 a2 ⊢
    refine b_freeze 2 rfl ?_
    refine b_cons (s_app 3 rfl (e_ixL (e_var 2) (e_var 5) (atI_ix (by omega) (by omega))) (by omega) ?_)
    have c1 := cut_upto ws a1
    have c2 := cut_from ws (show 0 ≤ at' + 1 by omega)
    refine b_cons (s_own 2 (el_cat (EL.toE (el_slice (e_var 2) eo_none (eo_some (e_var 5)))) (EL.toE (el_slice (e_var 2) (eo_some (e_add (e_var 5) e_int)) eo_none)) (by rw [c1, c2, List.length_take, List.length_drop]; omega)) ?_ sc_law_order.nd)
    rw [c1, c2]
    refine B.weak (b_nil ⟨_, _, ⟨⟨by rw [List.length_append, List.length_take, List.length_drop]; omega, fun t ht => ?_⟩, by rw [List.length_append]; simp; omega, fun t ht => ?_⟩, rfl⟩) (.same (.same (.same (.same (.un (.un .nil))))))
    · rcases List.mem_append.mp ht with z | z
      · exact hwi t (List.mem_of_mem_take z)
      · exact hwi t (List.mem_of_mem_drop z)
    · rcases List.mem_append.mp ht with z | z
      · exact hti t z
      · rw [List.mem_singleton.mp z]; exact hwi _ (ix_mem (by omega) (by omega))
  · rintro _ ⟨ws, ts, ⟨⟨hwl, hwi⟩, htl, hti⟩, rfl⟩
    refine b_freeze 3 rfl ?_
    exact b_cons (s_ret (e_var 3) (fun M v r => ⟨ts, ⟨by omega, hti⟩, r⟩))
end

def pickedM (many : Int) (row : List Int) : List Int := if decide (many < 13) = true then firstN many else row.map fun d => d % many
theorem picked_in {many : Int} {row : List Int} (h : 1 ≤ many) : inR many (pickedM many row) := by
  unfold pickedM
  split
  · exact firstN_in
  · intro t ht
    obtain ⟨d, _, rfl⟩ := List.mem_map.mp ht
    exact ⟨Int.emod_nonneg _ (by omega), Int.emod_lt_of_pos _ (by omega)⟩
theorem picked_len {many : Int} {row : List Int} (h : row.length ≤ 1000) : (pickedM many row).length ≤ 1000 := by
  unfold pickedM
  split
  · rename_i c; have c := of_decide_eq_true c; rw [firstN_len]; omega
  · rw [List.length_map]; exact h
def sp_law_picked (K : Fg) : Sp := spG K (fun i : Int × List Int => [.vl tI i.1, .vl (tLst tI) i.2]) (fun i => 1 ≤ i.1 ∧ i.2.length ≤ 1000) (tLst tI) (fun i => pickedM i.1 i.2)
section
variable {P : Program} {w : World} {K : Fg} {mg : Str → Option Value} {base : Heap}
theorem sc_law_picked : FnScope ["many", "row", "digit"] ["many", "row"] (defScope s_law_picked) := ⟨rfl, rfl, rfl, by decide +kernel, rfl, by decide +kernel, by decide +kernel⟩
theorem ok_law_picked {f : Addr} {fd : FuncData} (F : Fun K "_law_picked" "_law_picked" s_law_picked f fd) (b : Bi mg) : FnOk P w K mg base CX0 1 f fd ["many", "row"] (sp_law_picked K) := by
  refine fn_ok F sc_law_picked 1 rfl (fun _ => rfl) (fun cdv A outer s H E hr ⟨many, row⟩ hp => ?_)
  dsimp only at hp ⊢
  obtain ⟨h0, h1⟩ := hp
  refine b_cons (s_if (t_cv (e_var 0) e_int cv_lt) (fun h => ?_) (fun h => b_nil ?_))
  · have h' := of_decide_eq_true h
    exact b_cons (s_ret (EL.toE (el_listR rfl b.list b.range (e_var 0) (by omega))) (fun M v r => ret_is r (by unfold pickedM; rw [if_pos h])))
  · exact b_cons (s_ret (EL.toE (el_lc (lc_L (f := fun d : Int => d % many) (own := [("digit", 2)]) (e_var 1) 2 (fun s0 H C cl fp m x hx => e_mod (e_intI b.int (e_var 2)) (e_var 0) (by omega)) (blkOk_by (N := ["many", "row", "digit"]) (sc := defScope s_law_picked) (by decide +kernel)) (by omega) (fun _ _ _ _ _ => pg_name sc_law_picked.nd rfl (by first | exact Or.inl rfl | exact Or.inr rfl))) rfl sc_law_picked.nd)) (fun M v r => ret_is r (by unfold pickedM; rw [if_neg (nt h)])))
end

def sp_law_singles_are (K : Fg) (C : Addr) : Sp := spG K (fun i : List (List Int) × List (List Int) × List (List Int) × List Int × List Int => [.vl (tBook C) i.1, .vl (tTup (tTup tI)) i.2.1, .vl (tLst (tTup tI)) i.2.2.1, .vl (tLst tI) i.2.2.2.1, .vl (tLst tI) i.2.2.2.2]) (fun i => (i.1 = i.2.1 ∧ i.2.2.1 = knotsM i.2.1) ∧ Good i.2.1 1000 1000 ∧ inR i.2.1.length i.2.2.2.1 ∧ inR i.2.2.1.length i.2.2.2.2) tB (fun _ => true)
section
variable {P : Program} {w : World} {K : Fg} {mg : Str → Option Value} {base : Heap}
theorem sc_law_singles_are : FnScope ["book", "kinds", "due", "picks", "spots", "k", "numbers", "j"] ["book", "kinds", "due", "picks", "spots"] (defScope s_law_singles_are) := ⟨rfl, rfl, rfl, by decide +kernel, rfl, by decide +kernel, by decide +kernel⟩
theorem ok_law_singles_are {C : Addr} {f : Addr} {fd : FuncData} (F : Fun K "_law_singles_are" "_law_singles_are" s_law_singles_are f fd) (b : Bi mg) (C_law_flag : Fn P w K mg base CX0 1 "_law_flag" ["told", "due"] (sp_law_flag K)) (C_law_number : Fn P w K mg base CX0 2 "_law_number" ["told", "due"] (sp_law_number K)) (C_law_one_each : Fn P w K mg base CX0 1 "_law_one_each" ["kinds", "knot"] (sp_law_one_each K)) (Cis_line : Fn P w K mg base CX0 5 "is_line" ["book", "knot"] (spis_line K C)) (Cknot_of : Fn P w K mg base CX0 5 "knot_of" ["book", "kind"] (spknot_of K C)) : FnOk P w K mg base CX0 6 f fd ["book", "kinds", "due", "picks", "spots"] (sp_law_singles_are K C) := by
  refine fn_ok F sc_law_singles_are 3 rfl (fun _ => rfl) (fun cdv A outer s H E hr ⟨book, kinds, due, picks, spots⟩ hp => ?_)
  dsimp only at hp ⊢
  obtain ⟨⟨rfl, rfl⟩, hg, hpk, hsp⟩ := hp
  have hkl := knots_len hg (by omega)
  have hin := knots_in hg (by omega)
  have hlen := hg.len
  refine b_cons (s_forL 5 (fun m G' => G' = [.vl (tBook C) book, .vl (tTup (tTup tI)) book, .vl (tLst (tTup tI)) (knotsM book), .vl (tLst tI) picks, .vl (tLst tI) spots, .un, .un, .un]) _ (e_var 3) (Sub.refl _) rfl ?_ ?_ sc_law_singles_are.nd rfl)
  · rintro m k _ hx rfl
    have hk := hpk k (List.mem_of_getElem? hx)
    refine b_cons (s_lc 6 (lc_RF (f := fun j : Nat => (j : Int)) (g := fun j : Nat => decide (k ∈ ix (knotsM book) (j : Int))) (own := [("j", 7)]) b.range (e_lenL b.len (e_var 2)) (by omega) 7 (fun s0 H C cl fp m hx => (t_cv (e_var 5) (e_ixL (e_var 2) (e_var 7) (atI_ix (by omega) (by omega))) cv_inT)) (fun s0 H C cl fp m hx hd => (e_var 7)) (blkOk_by (N := ["book", "kinds", "due", "picks", "spots", "k", "numbers", "j"]) (sc := defScope s_law_singles_are) (by decide +kernel)) (fun _ _ _ _ _ => pg_name sc_law_singles_are.nd rfl (by first | exact Or.inl rfl | exact Or.inr rfl))) ?_ rfl sc_law_singles_are.nd)
    rw [Int.toNat_natCast]
    refine b_freeze 6 rfl ?_
    have hn := number_is hg (by omega) hk.1 hk.2
    have hd : (holds (knotsM book) k (knotsM book).length).length ≤ 1000 := by
      unfold holds
      have := List.length_filter_le (fun j : Nat => decide (k ∈ ix (knotsM book) (j : Int))) (List.range (knotsM book).length)
      rw [List.length_range] at this
      omega
    have he := head_none (holds (knotsM book) k (knotsM book).length)
    show B _ _ _ _
    unfold holds at hn hd he
    generalize (List.range (knotsM book).length).filter (fun j : Nat => decide (k ∈ ix (knotsM book) (j : Int))) = hs at hn hd he ⊢
    refine b_cons (s_if (t_not (t_val (e_call C_law_number (hr.mono (by decide)) (ix (numbersM book) k, hs.head?.map fun j : Nat => (j : Int)) (ea_cons (e_call Cknot_of (hr.mono (by decide)) (book, k) (ea_cons (e_var 0) (ea_cons (e_var 5) ea_nil)) (show Good book 1000 1000 ∧ 0 ≤ k ∧ k < book.length from ⟨hg, hk⟩)) (ea_cons (TL.E.is (e_ixL (s := tO tI) (xs := (hs.map fun j : Nat => some (j : Int)) ++ [none]) (EL.toE (el_cat (TL.E.as (s := tLst tI) (x := hs.map fun j : Nat => (j : Int)) (t := tLst (tO tI)) (y := hs.map fun j : Nat => some (j : Int)) (e_var 6) (fun M v r => ?_)) (EL.toE (el_lst (eh_cons (TL.E.as (s := tN) (x := ()) (t := tO tI) (y := none) e_non (fun _ _ r => r)) eh_nil))) (by simp only [List.length_map, List.length_cons, List.length_nil]; omega))) e_int (atI_ix (by omega) (by simp only [List.length_append, List.length_map, List.length_cons, List.length_nil]; omega))) he) ea_nil)) (show ix (numbersM book) k = hs.head?.map fun j : Nat => (j : Int) from hn)))) (fun h => by cases h) (fun _ => b_nil ?_))
    · obtain ⟨a, vs, h1, h2, h3⟩ := r
      refine ⟨a, vs, h1, h2, ?_⟩
      clear hn hd he h1 h2
      induction hs generalizing vs with
      | nil => cases h3; exact .nil
      | cons j js ih =>
        rw [List.map_cons] at h3 ⊢
        cases h3 with
        | cons q r => exact .cons q (ih _ r)
    · exact B.weak (b_nil rfl) (.same (.same (.same (.same (.same (.un (.un (.un .nil))))))))
  · rintro _ rfl
    refine b_cons (s_forL 7 (fun m G' => G' = [.vl (tBook C) book, .vl (tTup (tTup tI)) book, .vl (tLst (tTup tI)) (knotsM book), .vl (tLst tI) picks, .vl (tLst tI) spots, .un, .un, .un]) _ (e_var 4) (Sub.refl _) rfl ?_ ?_ sc_law_singles_are.nd rfl)
    · rintro m j _ hx rfl
      have hj := hsp j (List.mem_of_getElem? hx)
      have hkn := hin _ (ix_mem (xs := knotsM book) hj.1 hj.2)
      refine b_cons (s_if (t_not (t_val (e_call C_law_flag (hr.mono (by decide)) (ix (linesM book) j, lineKM book (ix (knotsM book) j)) (ea_cons (e_call Cis_line (hr.mono (by decide)) (book, j) (ea_cons (e_var 0) (ea_cons (e_var 7) ea_nil)) (show Good book 1000 1000 ∧ 0 ≤ j ∧ j < (knotsM book).length from ⟨hg, hj⟩)) (ea_cons (e_call C_law_one_each (hr.mono (by decide)) (book, ix (knotsM book) j) (ea_cons (e_var 1) (ea_cons (e_ixL (e_var 2) (e_var 7) (atI_ix (by omega) (by omega))) ea_nil)) (show Good book 1000 1000 ∧ ∀ k ∈ ix (knotsM book) j, 0 ≤ k ∧ k < book.length from ⟨hg, hkn.2⟩)) ea_nil)) (show ix (linesM book) j = lineKM book (ix (knotsM book) j) from line_ix hj.1 hj.2)))) (fun h => by cases h) (fun _ => b_nil ?_))
      exact B.weak (b_nil rfl) (.same (.same (.same (.same (.same (.un (.un (.un .nil))))))))
    · rintro _ rfl
      exact b_cons (s_ret e_bl (fun M v r => r))
end

theorem cut_len {α : Type} (xs : List α) (a b : Int) (h0 : 0 ≤ a) (hab : a ≤ b) : ((cut xs (some a) (some b)).length : Int) ≤ b - a := by
  unfold cut
  rw [List.length_take, List.length_drop]
  have e1 : HT.sIx xs.length 0 (some a) = min a.toNat xs.length := if_neg (by omega)
  have e2 : HT.sIx xs.length xs.length (some b) = min b.toNat xs.length := if_neg (by omega)
  rw [e1, e2]; omega
def sp_law_broad (K : Fg) : Sp := spE K (fun i : List (List Int) × List Int × Int => [.vl (tTup (tTup tI)) i.1, .vl (tLst tI) i.2.1, .vl tI i.2.2]) (fun i => Good i.1 40 20 ∧ (2 ≤ i.2.1.length ∧ i.2.1.length ≤ 1000) ∧ 0 ≤ i.2.2 ∧ i.2.2 ≤ 20) (tTup (tTup tI)) (fun i y => Good y 40 20)
section
variable {P : Program} {w : World} {K : Fg} {mg : Str → Option Value} {base : Heap}
theorem sc_law_broad : FnScope ["kinds", "row", "limit", "k", "told", "digit", "t"] ["kinds", "row", "limit"] (defScope s_law_broad) := ⟨rfl, rfl, rfl, by decide +kernel, rfl, by decide +kernel, by decide +kernel⟩
theorem ok_law_broad {f : Addr} {fd : FuncData} (F : Fun K "_law_broad" "_law_broad" s_law_broad f fd) (b : Bi mg) : FnOk P w K mg base CX0 1 f fd ["kinds", "row", "limit"] (sp_law_broad K) := by
  refine fn_okE F sc_law_broad 4 rfl (fun _ => rfl) (fun cdv A outer s H E hr ⟨kinds, row, limit⟩ hp => ?_)
  dsimp only at hp ⊢
  obtain ⟨hg, ⟨r0, r1⟩, l0, l1⟩ := hp
  have hpos := hg.pos
  have hlen := hg.len
  refine b_cons (s_set 3 (e_mod (e_intI b.int (e_ixL (e_var 1) e_int (atI_ix (by omega) (by omega)))) (e_div (e_add (e_lenT b.len (e_var 0)) e_int) e_int (by omega)) (by omega)) ?_ sc_law_broad.nd)
  have a1 := Int.emod_nonneg (ix row 1) (show ((kinds.length : Int) + 1) / 2 ≠ 0 by omega)
  have a2 := Int.emod_lt_of_pos (ix row 1) (show 0 < ((kinds.length : Int) + 1) / 2 by omega)
  generalize ix row 1 % (((kinds.length : Int) + 1) / 2) = k at a1 a2 ⊢
  have hk : k < kinds.length := by omega
  refine b_cons (s_if (t_cv (e_ixL (e_var 1) e_int (atI_ix (by omega) (by omega))) e_int cv_gt) (fun h => ?_) (fun h => b_nil ?_))
  · exact b_cons (s_ret (e_tupT b.tuple (e_var 0)) (fun M v r => ⟨kinds, hg, r⟩))
  · have hrow := hg.row _ (ix_mem (xs := kinds) (i := k) a1 hk)
    refine b_cons (s_own 4 (el_listT b.list (e_ixT (e_var 0) (e_var 3) (atI_ix (by omega) hk))) ?_ sc_law_broad.nd)
    generalize hl0 : (ix kinds k).length = n0 at hrow
    have hmx : 0 ≤ (if limit - (n0 : Int) > 0 then limit - (n0 : Int) else 0) ∧ (n0 : Int) + (if limit - (n0 : Int) > 0 then limit - (n0 : Int) else 0) ≤ 20 := by split <;> omega
    refine b_cons (s_forL 5 (fun m G' => ∃ told : List Int, (told.length = n0 + m ∧ ∀ t ∈ told, -3 ≤ t ∧ t < kinds.length) ∧ G' = [.vl (tTup (tTup tI)) kinds, .vl (tLst tI) row, .vl tI limit, .vl tI k, .ow tI told, .un, .un]) _ (xs := cut row (some 2) (some (2 + (if limit - (n0 : Int) > 0 then limit - (n0 : Int) else 0)))) (by rw [← hl0]; exact EL.toE (el_read 4 rfl imm_I (el_slice (e_var 1) (eo_some e_int) (eo_some (e_add e_int (e_max rfl b.max e_int (e_sub (e_var 2) (e_lenL b.len (e_var 4))))))))) (Sub.refl _) ⟨_, ⟨by omega, hrow.2⟩, rfl⟩ ?_ ?_ sc_law_broad.nd rfl)
    · rintro m d _ hd ⟨told, ⟨htl, hti⟩, rfl⟩
      have b1 := Int.emod_nonneg d (show (kinds.length : Int) + 3 ≠ 0 by omega)
      have b2 := Int.emod_lt_of_pos d (show 0 < (kinds.length : Int) + 3 by omega)
      have c1 := Int.emod_nonneg (d / 50) (show (3 : Int) ≠ 0 by omega)
      have c2 := Int.emod_lt_of_pos (d / 50) (show (0 : Int) < 3 by omega)
      have hml := cut_len row 2 (2 + (if limit - (n0 : Int) > 0 then limit - (n0 : Int) else 0)) (by omega) (by omega)
      have hmm := (List.getElem?_eq_some_iff.mp hd).1
      refine b_cons (s_set 6 (e_sub (e_mod (e_intI b.int (e_var 5)) (e_add (e_lenT b.len (e_var 0)) e_int) (by omega)) e_int) ?_ sc_law_broad.nd)
      refine b_cons (s_app 4 rfl (e_ixL (EL.toE (el_lst (eh_cons (e_var 6) (eh_cons (e_sub (e_neg e_int) (e_mod (e_div (e_intI b.int (e_var 5)) e_int (by omega)) e_int (by omega))) eh_nil)))) (e_intB b.int (e_chain e_int (e_var 6) (e_var 3) cv_le (fun _ => cv_le) (r0 := ⟨_, op_le⟩))) (atI_ix (by split <;> (simp only [List.length_cons, List.length_nil]; omega)) (by split <;> (simp only [List.length_cons, List.length_nil]; omega)))) (by omega) ?_)
      refine B.weak (b_nil ⟨_, ⟨by rw [List.length_append, htl]; simp; omega, fun t ht => ?_⟩, rfl⟩) (.same (.same (.same (.same (.same (.un (.un .nil)))))))
      rcases List.mem_append.mp ht with z | z
      · exact hti t z
      · rw [List.mem_singleton.mp z]
        split
        · rw [ix_getElem (x := -1 - d / 50 % 3) (by omega) rfl]; omega
        · rw [ix_getElem (x := d % ((kinds.length : Int) + 3) - 3) (by omega) rfl]; omega
    · rintro _ ⟨told, ⟨htl, hti⟩, rfl⟩
      have hml := cut_len row 2 (2 + (if limit - (n0 : Int) > 0 then limit - (n0 : Int) else 0)) (by omega) (by omega)
      have e1 := cut_upto kinds a1
      have e2 := cut_from kinds (show 0 ≤ k + 1 by omega)
      refine b_cons (s_ret (e_read 4 rfl (imm_T (imm_T imm_I)) (e_catA (e_catA (e_tupT b.tuple (e_sliceT (e_var 0) eo_none (eo_some (e_var 3)))) (e_tup (eh_cons (e_tupL b.tuple (e_var 4)) eh_nil)) (by rw [e1, List.length_take]; simp only [List.length_cons, List.length_nil]; omega)) (e_tupT b.tuple (e_sliceT (e_var 0) (eo_some (e_add (e_var 3) e_int)) eo_none)) (by rw [e1, e2, List.length_append, List.length_take, List.length_drop]; simp only [List.length_cons, List.length_nil]; omega))) (fun M v r => ⟨_, ?_, r⟩))
      rw [e1, e2]
      have hl : (kinds.take k.toNat ++ [told] ++ kinds.drop (k + 1).toNat).length = kinds.length := by
        simp only [List.length_append, List.length_take, List.length_drop, List.length_cons, List.length_nil]; omega
      refine ⟨by rw [hl]; exact hpos, by rw [hl]; exact hlen, fun r hr' => ?_⟩
      rw [hl]
      rcases List.mem_append.mp hr' with z | z
      · rcases List.mem_append.mp z with z | z
        · exact hg.row r (List.mem_of_mem_take z)
        · rw [List.mem_singleton.mp z]; exact ⟨by omega, hti⟩
      · exact hg.row r (List.mem_of_mem_drop z)
end

def rowsOk (many e : Int) (rs : List (List Int)) : Prop := (rs.length : Int) = many ∧ ∀ r ∈ rs, rowOk many e r
theorem Good.rows {ks : List (List Int)} {n e : Int} (h : Good ks n e) : rowsOk (ks.length : Int) e ks := ⟨rfl, h.row⟩
theorem rows_good {ks : List (List Int)} {many n e : Int} (h : rowsOk many e ks) (h0 : 0 < many) (h1 : many ≤ n) : Good ks n e := ⟨by have := h.1; omega, by have := h.1; omega, fun r hr => ⟨(h.2 r hr).1, fun t ht => by have := (h.2 r hr).2 t ht; have := h.1; omega⟩⟩
def sp_law_tidy (K : Fg) : Sp := spN K (fun i : List (List Int) => [.vl (tLst (tTup tI)) i]) (fun i => ∃ many, many ≤ 1000 ∧ rowsOk many 1000 i) (tTup tI) (fun i y => ∀ many e, e ≤ 1000 → rowsOk many e i → rowsOk many e y)
section
variable {P : Program} {w : World} {K : Fg} {mg : Str → Option Value} {base : Heap}
theorem sc_law_tidy : FnScope ["kinds", "t", "k"] ["kinds"] (defScope s_law_tidy) := ⟨rfl, rfl, rfl, by decide +kernel, rfl, by decide +kernel, by decide +kernel⟩
theorem ok_law_tidy {f : Addr} {fd : FuncData} (F : Fun K "_law_tidy" "_law_tidy" s_law_tidy f fd) (b : Bi mg)  : FnOk P w K mg base CX0 1 f fd ["kinds"] (sp_law_tidy K) := by
  refine fn_okN F sc_law_tidy 2 rfl (fun _ => rfl) (fun cdv A outer s H E hr kinds hp => ?_)
  obtain ⟨many, hm0, hm⟩ := hp
  have hl := hm.1
  refine bn_ret (EL.toX (el_lc (lc_R (f := fun k : Nat => (ix kinds (k : Int)).filter fun t => decide (t < 0) || decide ((k : Int) ≤ t)) (own := [("k", 2)]) b.range (e_lenL b.len (e_var 0)) (by omega) 2 (fun s0 H C cl fp m hx => TL.E.is (e_tupL b.tuple (EL.toE (el_lc (lc_TF (f := fun x => x) (own := [("t", 1)]) (e_ixL (e_var 0) (e_var 2) (atI_ix (by omega) (by omega))) 1 (fun s0 H C cl fp m x hx => (TW.toT (w_or (t_cv (e_var 1) e_int cv_lt) (fun h => (w_or1 (t_cv (e_var 1) (e_var 2) cv_ge)))))) (fun s0 H C cl fp m x hx hd => (e_var 1)) (blkIn (N := ["kinds", "t", "k"]) (by decide +kernel)) (by have := (hm.2 _ (ix_mem (xs := kinds) (i := (m : Int)) (by omega) (by omega))).1; omega) (fun _ _ _ _ _ => pg_name sc_law_tidy.nd rfl (by first | exact Or.inl rfl | exact Or.inr rfl))) rfl sc_law_tidy.nd))) (List.map_id' _)) (blkOk_by (N := ["kinds", "t", "k"]) (sc := defScope s_law_tidy) (by decide +kernel)) (fun _ _ _ _ _ => pg_name sc_law_tidy.nd rfl (by first | exact Or.inl rfl | exact Or.inr rfl))) rfl sc_law_tidy.nd) ?_)
  intro mn e he hmn
  refine ⟨by rw [List.length_map, List.length_range, Int.toNat_natCast]; exact hmn.1, fun r hr => ?_⟩
  obtain ⟨k, hk, rfl⟩ := List.mem_map.mp hr
  have hk := List.mem_range.mp hk
  have q := hmn.2 _ (ix_mem (xs := kinds) (i := (k : Int)) (by omega) (by omega))
  refine ⟨?_, fun t ht => q.2 t (List.mem_filter.mp ht).1⟩
  have := List.length_filter_le (fun t => decide (t < 0) || decide ((k : Int) ≤ t)) (ix kinds (k : Int))
  have := q.1
  omega
end

def sp_law_ring (K : Fg) : Sp := spN K (fun i : List (List Int) × Int × Int × Int => [.vl (tLst (tTup tI)) i.1, .vl tI i.2.1, .vl tI i.2.2.1, .vl tI i.2.2.2]) (fun i => (i.1.length ≤ 1000 ∧ rowsOk i.1.length 900 i.1) ∧ 0 ≤ i.2.1 ∧ i.2.1 ≤ i.2.2.1 ∧ i.2.2.1 < i.1.length) (tTup tI) (fun i y => ∀ many e, rowsOk many e i.1 → rowsOk many (e + 1) y)
section
variable {P : Program} {w : World} {K : Fg} {mg : Str → Option Value} {base : Heap}
theorem sc_law_ring : FnScope ["kinds", "first", "last", "place", "told", "k", "kept", "t", "at"] ["kinds", "first", "last", "place"] (defScope s_law_ring) := ⟨rfl, rfl, rfl, by decide +kernel, rfl, by decide +kernel, by decide +kernel⟩
theorem ok_law_ring {f : Addr} {fd : FuncData} (F : Fun K "_law_ring" "_law_ring" s_law_ring f fd) (b : Bi mg)  : FnOk P w K mg base CX0 1 f fd ["kinds", "first", "last", "place"] (sp_law_ring K) := by
  refine fn_okN F sc_law_ring 5 rfl (fun _ => rfl) (fun cdv A outer s H E hr ⟨kinds, first, last, place⟩ hp => ?_)
  dsimp only at hp ⊢
  obtain ⟨⟨hl, hrw⟩, f0, f1, f2⟩ := hp
  refine bn_cons (s_own 4 (el_listL b.list (e_var 0)) ?_ sc_law_ring.nd)
  refine bn_cons (s_forR2 5 (fun m G' => ∃ told : List (List Int), (told.length = kinds.length ∧ ∀ many e, rowsOk many e kinds → ∀ r ∈ told, rowOk many (e + 1) r) ∧ G' = [.vl (tLst (tTup tI)) kinds, .vl tI first, .vl tI last, .vl tI place, .ow (tTup tI) told, .un, .un, .un, .un]) _ b.range (e_var 1) (e_add (e_var 2) e_int) (by omega) (Sub.refl _) ⟨kinds, ⟨rfl, fun many e h r hr => ⟨by have := (h.2 r hr).1; omega, (h.2 r hr).2⟩⟩, rfl⟩ ?_ ?_ sc_law_ring.nd rfl)
  · rintro m _ hm ⟨told, ⟨htl, htr⟩, rfl⟩
    have hk0 := hrw.2 _ (ix_mem (xs := kinds) (i := first + (m : Int)) (by omega) (by omega))
    have hk0l := hk0.1
    refine b_cons (s_lc 6 (lc_TF (f := fun x => x) (own := [("t", 7)]) (e_ixL (e_var 0) (e_var 5) (atI_ix (by omega) (by omega))) 7 (fun s0 H C cl fp m x hx => (TW.toT (w_or (t_cv (e_var 7) e_int cv_lt) (fun h => (w_or1 (t_cv (e_var 7) (e_var 2) cv_gt)))))) (fun s0 H C cl fp m x hx hd => (e_var 7)) (blkOk_by (N := ["kinds", "first", "last", "place", "told", "k", "kept", "t", "at"]) (sc := defScope s_law_ring) (by decide +kernel)) (by omega) (fun _ _ _ _ _ => pg_name sc_law_ring.nd rfl (by first | exact Or.inl rfl | exact Or.inr rfl))) ?_ rfl sc_law_ring.nd)
    rw [List.map_id']
    have hkl := List.length_filter_le (fun t => decide (t < 0) || decide (last < t)) (ix kinds (first + (m : Int)))
    have hkm : ∀ t ∈ (ix kinds (first + (m : Int))).filter (fun t => decide (t < 0) || decide (last < t)), t ∈ ix kinds (first + (m : Int)) := fun t ht => (List.mem_filter.mp ht).1
    generalize (ix kinds (first + (m : Int))).filter (fun t => decide (t < 0) || decide (last < t)) = kept at hkl hkm ⊢
    refine b_freeze 6 rfl ?_
    refine b_cons (s_set 8 (e_mod (e_intI b.int (e_var 3)) (e_add (e_lenL b.len (e_var 6)) e_int) (by omega)) ?_ sc_law_ring.nd)
    have a1 := Int.emod_nonneg place (show (kept.length : Int) + 1 ≠ 0 by omega)
    generalize place % ((kept.length : Int) + 1) = at' at a1 ⊢
    have c1 := cut_upto kept a1
    have c2 := cut_from kept a1
    have b1 := Int.emod_nonneg (first + (m : Int) + 1 - first) (show last + 1 - first ≠ 0 by omega)
    have b2 := Int.emod_lt_of_pos (first + (m : Int) + 1 - first) (show 0 < last + 1 - first by omega)
    refine b_cons (s_seti 4 (m := (first + (m : Int)).toNat) rfl (e_tupL b.tuple (EL.toE (el_cat (EL.toE (el_cat (EL.toE (el_slice (e_var 6) eo_none (eo_some (e_var 8)))) (EL.toE (el_lst (eh_cons (e_add (e_var 1) (e_mod (e_intI b.int (e_sub (e_add (e_var 5) e_int) (e_var 1))) (e_sub (e_add (e_var 2) e_int) (e_var 1)) (by omega))) eh_nil))) (by rw [c1, List.length_take]; simp only [List.length_cons, List.length_nil]; omega))) (EL.toE (el_slice (e_var 6) (eo_some (e_var 8)) eo_none)) (by rw [c1, c2, List.length_append, List.length_take, List.length_drop]; simp only [List.length_cons, List.length_nil]; omega)))) (e_var 5) (ixNp (by omega) (by omega)) ?_)
    rw [c1, c2]
    refine B.weak (b_nil ⟨_, ⟨by rw [List.length_set]; exact htl, fun many e h r hr => ?_⟩, rfl⟩) (.same (.same (.same (.same (.same (.un (.un (.un (.un .nil)))))))))
    rcases List.mem_or_eq_of_mem_set hr with z | z
    · exact htr many e h r z
    · rw [z]
      have hq := h.2 _ (ix_mem (xs := kinds) (i := first + (m : Int)) (by omega) (by omega))
      have hq1 := hq.1
      have hq0 := h.1
      refine ⟨by simp only [List.length_append, List.length_take, List.length_drop, List.length_cons, List.length_nil]; omega, fun t ht => ?_⟩
      rcases List.mem_append.mp ht with y | y
      · rcases List.mem_append.mp y with y | y
        · exact hq.2 t (hkm t (List.mem_of_mem_take y))
        · rw [List.mem_singleton.mp y]; omega
      · exact hq.2 t (hkm t (List.mem_of_mem_drop y))
  · rintro _ ⟨told, ⟨htl, htr⟩, rfl⟩
    exact bn_retOwn 4 rfl (fun many e h => ⟨by rw [htl]; exact h.1, htr many e h⟩)
end

structure KnitRow (row : List Int) : Prop where
  len : 19 ≤ row.length
  h1 : 0 ≤ ix row 1 ∧ ix row 1 < 4
  h9 : ∀ k : Int, 0 ≤ k → k < 3 → 0 ≤ ix row (9 + 4 * k) ∧ ix row (9 + 4 * k) < 3
theorem rowsOk.mono {many e e' : Int} {rs : List (List Int)} (h : rowsOk many e rs) (q : e ≤ e') : rowsOk many e' rs := ⟨h.1, fun r hr => ⟨by have := (h.2 r hr).1; omega, (h.2 r hr).2⟩⟩
theorem rowsOk.set {many e : Int} {rs : List (List Int)} {r : List Int} (h : rowsOk many e rs) (k : Nat) (q : rowOk many e r) : rowsOk many e (rs.set k r) := ⟨by rw [List.length_set]; exact h.1, fun x hx => by
  rcases List.mem_or_eq_of_mem_set hx with z | z
  · exact h.2 x z
  · rw [z]; exact q⟩
def sp_law_knit (K : Fg) : Sp := spE K (fun i : List (List Int) × List Int => [.vl (tTup (tTup tI)) i.1, .vl (tLst tI) i.2]) (fun i => Good i.1 40 4 ∧ KnitRow i.2) (tTup (tTup tI)) (fun i y => Good y 40 20)
section
variable {P : Program} {w : World} {K : Fg} {mg : Str → Option Value} {base : Heap}
theorem sc_law_knit : FnScope ["kinds", "row", "told", "many", "k", "first", "last", "a", "b"] ["kinds", "row"] (defScope s_law_knit) := ⟨rfl, rfl, rfl, by decide +kernel, rfl, by decide +kernel, by decide +kernel⟩
theorem ok_law_knit {f : Addr} {fd : FuncData} (F : Fun K "_law_knit" "_law_knit" s_law_knit f fd) (b : Bi mg) (C_law_tidy : Fn P w K mg base CX0 1 "_law_tidy" ["kinds"] (sp_law_tidy K)) (C_law_ring : Fn P w K mg base CX0 1 "_law_ring" ["kinds", "first", "last", "place"] (sp_law_ring K)) : FnOk P w K mg base CX0 2 f fd ["kinds", "row"] (sp_law_knit K) := by
  refine fn_okE F sc_law_knit 7 rfl (fun _ => rfl) (fun cdv A outer s H E hr ⟨kinds, row⟩ hp => ?_)
  dsimp only at hp ⊢
  obtain ⟨hg, hrl, h1, h9⟩ := hp
  have hpos := hg.pos
  have hlen := hg.len
  refine b_cons (s_own 2 (el_listT b.list (e_var 0)) ?_ sc_law_knit.nd)
  refine b_cons (s_set 3 (e_read 2 rfl imm_I (e_lenL b.len (e_var 2))) ?_ sc_law_knit.nd)
  refine b_cut (fun G' => ∃ told : List (List Int), rowsOk (kinds.length : Int) 4 told ∧ G' = [.vl (tTup (tTup tI)) kinds, .vl (tLst tI) row, .ow (tTup tI) told, .vl tI (kinds.length : Int), .un, .un, .un, .un, .un]) (s_if (t_cv (e_ixL (e_var 1) e_int (atI_ix (by omega) (by omega))) e_int cv_gt) (fun h => ?_) (fun h => ?_)) ?_
  · refine b_freeze 2 rfl ?_
    refine b_cons (s_ownX 2 (elx_call C_law_tidy (hr.mono (by decide)) (EA.toX (ea_cons (e_var 2) ea_nil)) (P := fun y => rowsOk (kinds.length : Int) 4 y) (fun ss hss => ⟨kinds, hss.symm, ⟨kinds.length, by omega, hg.rows.mono (by omega)⟩, fun y hy => hy _ _ (by omega) hg.rows⟩)) (fun told ht => b_nil ⟨told, ht, rfl⟩) sc_law_knit.nd)
  · exact b_nil ⟨kinds, hg.rows, rfl⟩
  rintro _ ⟨told, ht, rfl⟩
  refine b_cons (s_forR 4 (fun m G' => ∃ told : List (List Int), rowsOk (kinds.length : Int) (4 + m) told ∧ G' = [.vl (tTup (tTup tI)) kinds, .vl (tLst tI) row, .ow (tTup tI) told, .vl tI (kinds.length : Int), .un, .un, .un, .un, .un]) _ b.range (e_ixL (e_var 1) e_int (atI_ix (by omega) (by omega))) (by omega) (Sub.refl _) ⟨told, ht.mono (by omega), rfl⟩ ?_ ?_ sc_law_knit.nd rfl)
  · rintro m _ hm ⟨told, ht, rfl⟩
    have htl := ht.1
    have hq := h9 (m : Int) (by omega) (by omega)
    refine b_cons (s_set 5 (e_mod (e_intI b.int (e_ixL (e_var 1) (e_add e_int (e_mulL e_int (e_var 4) (by decide))) (atI_ix (by omega) (by omega)))) (e_var 3) (by omega)) ?_ sc_law_knit.nd)
    have f1 := Int.emod_nonneg (ix row (7 + 4 * (m : Int))) (show (kinds.length : Int) ≠ 0 by omega)
    have f2 := Int.emod_lt_of_pos (ix row (7 + 4 * (m : Int))) (show 0 < (kinds.length : Int) by omega)
    generalize ix row (7 + 4 * (m : Int)) % (kinds.length : Int) = first at f1 f2 ⊢
    have hv : 0 < ix ([2, 5, 40] : List Int) (ix row (9 + 4 * (m : Int))) := by
      have : ix row (9 + 4 * (m : Int)) = 0 ∨ ix row (9 + 4 * (m : Int)) = 1 ∨ ix row (9 + 4 * (m : Int)) = 2 := by omega
      rcases this with z | z | z <;> rw [z] <;> decide
    have hmn : 0 < (if ix ([2, 5, 40] : List Int) (ix row (9 + 4 * (m : Int))) < (kinds.length : Int) - first then ix ([2, 5, 40] : List Int) (ix row (9 + 4 * (m : Int))) else (kinds.length : Int) - first) ∧ (if ix ([2, 5, 40] : List Int) (ix row (9 + 4 * (m : Int))) < (kinds.length : Int) - first then ix ([2, 5, 40] : List Int) (ix row (9 + 4 * (m : Int))) else (kinds.length : Int) - first) ≤ (kinds.length : Int) - first := by split <;> omega
    refine b_cons (s_set 6 (e_add (e_var 5) (e_mod (e_intI b.int (e_ixL (e_var 1) (e_add e_int (e_mulL e_int (e_var 4) (by decide))) (atI_ix (by omega) (by omega)))) (e_min rfl b.min (e_sub (e_var 3) (e_var 5)) (e_ixL (EL.toE (el_lst (eh_cons e_int (eh_cons e_int (eh_cons e_int eh_nil))))) (e_ixL (e_var 1) (e_add e_int (e_mulL e_int (e_var 4) (by decide))) (atI_ix (by omega) (by omega))) (atI_ix (by omega) (by simp only [List.length_cons, List.length_nil]; omega)))) hmn.1)) ?_ sc_law_knit.nd)
    generalize (if ix ([2, 5, 40] : List Int) (ix row (9 + 4 * (m : Int))) < (kinds.length : Int) - first then ix ([2, 5, 40] : List Int) (ix row (9 + 4 * (m : Int))) else (kinds.length : Int) - first) = q at hmn ⊢
    have l1 := Int.emod_nonneg (ix row (8 + 4 * (m : Int))) (show q ≠ 0 by omega)
    have l2 := Int.emod_lt_of_pos (ix row (8 + 4 * (m : Int))) hmn.1
    generalize ix row (8 + 4 * (m : Int)) % q = d at l1 l2 ⊢
    refine b_freeze 2 rfl ?_
    refine b_cons (s_ownX 2 (elx_call C_law_ring (hr.mono (by decide)) (EA.toX (ea_cons (e_var 2) (ea_cons (e_var 5) (ea_cons (e_var 6) (ea_cons (e_ixL (e_var 1) (e_add e_int (e_mulL e_int (e_var 4) (by decide))) (atI_ix (by omega) (by omega))) ea_nil))))) (P := fun y => rowsOk (kinds.length : Int) (4 + m + 1) y) (fun ss hss => ⟨(told, first, first + d, ix row (10 + 4 * (m : Int))), hss.symm, ⟨⟨by dsimp only; omega, by dsimp only; rw [htl]; exact ht.mono (by omega)⟩, by dsimp only; omega, by dsimp only; omega, by dsimp only; omega⟩, fun y hy => hy _ _ ht⟩)) (fun told2 ht2 => ?_) sc_law_knit.nd)
    exact B.weak (b_nil ⟨told2, ht2.mono (by omega), rfl⟩) (.same (.same (.same (.same (.un (.un (.un (.un (.un .nil)))))))))
  · rintro _ ⟨told, ht, rfl⟩
    have ht : rowsOk (kinds.length : Int) 7 told := ht.mono (by omega)
    have htl := ht.1
    refine b_cut (fun G' => ∃ (told : List (List Int)) (a : Sl), rowsOk (kinds.length : Int) 8 told ∧ G' = [.vl (tTup (tTup tI)) kinds, .vl (tLst tI) row, .ow (tTup tI) told, .vl tI (kinds.length : Int), .un, .un, .un, a, .un]) (s_if (t_cv (e_ixL (e_var 1) e_int (atI_ix (by omega) (by omega))) e_int cv_lt) (fun h => ?_) (fun h => ?_)) ?_
    · refine b_cons (s_set 7 (e_mod (e_intI b.int (e_ixL (e_var 1) e_int (atI_ix (by omega) (by omega)))) (e_var 3) (by omega)) ?_ sc_law_knit.nd)
      have a1 := Int.emod_nonneg (ix row 3) (show (kinds.length : Int) ≠ 0 by omega)
      have a2 := Int.emod_lt_of_pos (ix row 3) (show 0 < (kinds.length : Int) by omega)
      generalize ix row 3 % (kinds.length : Int) = a at a1 a2 ⊢
      have c1 := Int.emod_nonneg (ix row 4) (show (kinds.length : Int) ≠ 0 by omega)
      have c2 := Int.emod_lt_of_pos (ix row 4) (show 0 < (kinds.length : Int) by omega)
      have hrow := ht.2 _ (ix_mem (xs := told) (i := a) (by omega) (by omega))
      have hrl := hrow.1
      refine b_cons (s_seti 2 (m := a.toNat) rfl (e_read 2 rfl (imm_T imm_I) (e_catA (e_ixL (e_var 2) (e_var 7) (atI_ix (by omega) (by omega))) (e_tup (eh_cons (e_mod (e_intI b.int (e_ixL (e_var 1) e_int (atI_ix (by omega) (by omega)))) (e_var 3) (by omega)) eh_nil)) (by simp only [List.length_cons, List.length_nil]; omega))) (e_var 7) (ixNp (by omega) (by omega)) ?_)
      refine b_nil ⟨_, _, (ht.mono (by omega)).set _ ⟨by simp only [List.length_append, List.length_cons, List.length_nil]; omega, fun t ht' => ?_⟩, rfl⟩
      rcases List.mem_append.mp ht' with z | z
      · exact hrow.2 t z
      · rw [List.mem_singleton.mp z]; omega
    · exact b_nil ⟨told, _, ht.mono (by omega), rfl⟩
    rintro _ ⟨told, sa, ht, rfl⟩
    have htl := ht.1
    refine b_cut (fun G' => ∃ (told : List (List Int)) (a c : Sl), rowsOk (kinds.length : Int) 20 told ∧ G' = [.vl (tTup (tTup tI)) kinds, .vl (tLst tI) row, .ow (tTup tI) told, .vl tI (kinds.length : Int), .un, .un, .un, a, c]) (s_if (t_cv (e_ixL (e_var 1) e_int (atI_ix (by omega) (by omega))) e_int cv_eqI) (fun h => ?_) (fun h => ?_)) ?_
    · refine b_cons (s_set 8 (e_mod (e_intI b.int (e_ixL (e_var 1) e_int (atI_ix (by omega) (by omega)))) (e_var 3) (by omega)) ?_ sc_law_knit.nd)
      have a1 := Int.emod_nonneg (ix row 6) (show (kinds.length : Int) ≠ 0 by omega)
      have a2 := Int.emod_lt_of_pos (ix row 6) (show 0 < (kinds.length : Int) by omega)
      generalize ix row 6 % (kinds.length : Int) = a at a1 a2 ⊢
      have hrow := ht.2 _ (ix_mem (xs := told) (i := a) (by omega) (by omega))
      have hrl := hrow.1
      refine b_cons (s_seti 2 (m := a.toNat) rfl (e_read 2 rfl (imm_T imm_I) (e_tupL b.tuple (EL.toE (el_slice (EL.toE (el_rep (EL.toE (el_listT b.list (e_ixL (e_var 2) (e_var 8) (atI_ix (by omega) (by omega))))) e_int (by decide) (by show _ * 20 ≤ _; omega))) eo_none (eo_some e_int))))) (e_var 8) (ixNp (by omega) (by omega)) ?_)
      refine b_nil ⟨_, _, _, (ht.mono (by omega)).set _ ?_, rfl⟩
      rw [cut_upto _ (by decide)]
      refine ⟨by rw [List.length_take]; omega, fun t ht' => ?_⟩
      obtain ⟨l, hl, ht2⟩ := List.mem_flatten.mp (List.mem_of_mem_take ht')
      rw [List.eq_of_mem_replicate hl] at ht2
      exact hrow.2 t ht2
    · exact b_nil ⟨told, _, _, ht.mono (by omega), rfl⟩
    rintro _ ⟨told, sa, sc, ht, rfl⟩
    exact b_cons (s_ret (e_read 2 rfl (imm_T (imm_T imm_I)) (e_tupL b.tuple (e_var 2))) (fun M v r => ⟨told, rows_good ht (by omega) (by omega), r⟩))
end

def namedM (t : Int) (place : List Int) : Int := if decide (t < 0) = true then t else ix place t
def sp_law_named (K : Fg) : Sp := spG K (fun i : Int × List Int => [.vl tI i.1, .vl (tLst tI) i.2]) (fun i => i.1 < i.2.length) tI (fun i => namedM i.1 i.2)
section
variable {P : Program} {w : World} {K : Fg} {mg : Str → Option Value} {base : Heap}
theorem sc_law_named : FnScope ["t", "place"] ["t", "place"] (defScope s_law_named) := ⟨rfl, rfl, rfl, by decide +kernel, rfl, by decide +kernel, by decide +kernel⟩
theorem ok_law_named {f : Addr} {fd : FuncData} (F : Fun K "_law_named" "_law_named" s_law_named f fd) (b : Bi mg)  : FnOk P w K mg base CX0 1 f fd ["t", "place"] (sp_law_named K) := by
  refine fn_ok F sc_law_named 0 rfl (fun _ => rfl) (fun cdv A outer s H E hr ⟨t, place⟩ hp => ?_)
  dsimp only at hp ⊢
  refine b_cons (s_if (t_cv (e_var 0) e_int cv_lt) (fun h1 => ?_) (fun h1 => ?_))
  · refine b_cons (s_ret (e_var 0) (fun M v r => ?_))
    exact ret_is r (by unfold namedM; rw [if_pos h1])
  · have h1p := of_decide_eq_false h1
    refine b_nil ?_
    refine b_cons (s_ret (e_ixL (e_var 1) (e_var 0) (atI_ix (by omega) (by omega))) (fun M v r => ?_))
    exact ret_is r (by unfold namedM; rw [if_neg (nt h1)])
end

def sp_law_renumbered (K : Fg) : Sp := spE K (fun i : List (List Int) × List Int => [.vl (tTup (tTup tI)) i.1, .vl (tLst tI) i.2]) (fun i => Good i.1 1000 1000 ∧ i.2.length = i.1.length ∧ inR i.1.length i.2) (tTup (tTup tI)) (fun i y => y.length = i.1.length ∧ ∀ n e : Int, e ≤ 1000 → Good i.1 n e → Good y n e)
section
variable {P : Program} {w : World} {K : Fg} {mg : Str → Option Value} {base : Heap}
theorem sc_law_renumbered : FnScope ["kinds", "order", "place", "k", "t"] ["kinds", "order"] (defScope s_law_renumbered) := ⟨rfl, rfl, rfl, by decide +kernel, rfl, by decide +kernel, by decide +kernel⟩
theorem ok_law_renumbered {f : Addr} {fd : FuncData} (F : Fun K "_law_renumbered" "_law_renumbered" s_law_renumbered f fd) (b : Bi mg) (C_law_named : Fn P w K mg base CX0 1 "_law_named" ["t", "place"] (sp_law_named K)) : FnOk P w K mg base CX0 2 f fd ["kinds", "order"] (sp_law_renumbered K) := by
  refine fn_okE F sc_law_renumbered 3 rfl (fun _ => rfl) (fun cdv A outer s H E hr ⟨kinds, order⟩ hp => ?_)
  dsimp only at hp ⊢
  obtain ⟨hg, hol, hoi⟩ := hp
  have hpos := hg.pos
  have hlen := hg.len
  refine b_cons (s_own 2 (el_rep (EL.toE (el_lst (eh_cons e_int eh_nil))) (e_lenT b.len (e_var 0)) (by omega) (by simp only [List.length_cons, List.length_nil]; omega)) ?_ sc_law_renumbered.nd)
  rw [flat1, Int.toNat_natCast]
  refine b_cons (s_forR 3 (fun m G' => ∃ place : List Int, (place.length = kinds.length ∧ inR kinds.length place) ∧ G' = [.vl (tTup (tTup tI)) kinds, .vl (tLst tI) order, .ow tI place, .un, .un]) _ b.range (e_lenL b.len (e_var 1)) (by omega) (Sub.refl _) ⟨_, ⟨List.length_replicate, fun t ht => by rw [List.eq_of_mem_replicate ht]; omega⟩, rfl⟩ ?_ ?_ sc_law_renumbered.nd rfl)
  · rintro m _ hm ⟨place, ⟨hpl, hpi⟩, rfl⟩
    have ho := hoi _ (ix_mem (xs := order) (i := (m : Int)) (by omega) (by omega))
    refine b_cons (s_seti 2 (m := (ix order (m : Int)).toNat) rfl (e_var 3) (e_ixL (e_var 1) (e_var 3) (atI_ix (by omega) (by omega))) (ixNp (by omega) (by omega)) ?_)
    refine B.weak (b_nil ⟨_, ⟨by rw [List.length_set]; exact hpl, fun t ht => ?_⟩, rfl⟩) (.same (.same (.same (.un (.un .nil)))))
    rcases List.mem_or_eq_of_mem_set ht with z | z
    · exact hpi t z
    · rw [z]; omega
  · rintro _ ⟨place, ⟨hpl, hpi⟩, rfl⟩
    refine b_freeze 2 rfl ?_
    have hrow : ∀ (j : Nat) (x : Int), order[j]? = some x → ∀ t ∈ ix kinds x, -3 ≤ t ∧ t < kinds.length := fun j x hx t ht => by
      have ho := hoi x (List.mem_of_getElem? hx)
      exact (hg.row _ (ix_mem ho.1 ho.2)).2 t ht
    refine b_cons (s_ret (e_tupL b.tuple (EL.toE (el_lc (lc_L (f := fun x : Int => (ix kinds x).map fun t => namedM t place) (own := [("k", 3)]) (e_var 1) 3 (fun s0 H C cl fp m x hx => (e_tupL b.tuple (EL.toE (el_lc (lc_T (f := fun t => namedM t place) (xs := ix kinds x) (own := [("t", 4)]) (e_ixT (e_var 0) (e_var 3) (atI_ix (by have := hoi x (List.mem_of_getElem? hx); omega) (by have := hoi x (List.mem_of_getElem? hx); omega))) 4 (fun s0 H C cl fp j t ht => e_call C_law_named (hr.mono (by decide)) (t, place) (ea_cons (e_var 4) (ea_cons (e_var 2) ea_nil)) (show t < place.length by have := hrow m x hx t (List.mem_of_getElem? ht); omega)) (blkIn (N := ["kinds", "order", "place", "k", "t"]) (by decide +kernel)) (by have ho := hoi x (List.mem_of_getElem? hx); have := (hg.row _ (ix_mem ho.1 ho.2)).1; omega) (fun _ _ _ _ _ => pg_name sc_law_renumbered.nd rfl (by first | exact Or.inl rfl | exact Or.inr rfl))) rfl sc_law_renumbered.nd)))) (blkOk_by (N := ["kinds", "order", "place", "k", "t"]) (sc := defScope s_law_renumbered) (by decide +kernel)) (by omega) (fun _ _ _ _ _ => pg_name sc_law_renumbered.nd rfl (by first | exact Or.inl rfl | exact Or.inr rfl))) rfl sc_law_renumbered.nd))) (fun M v r => ⟨_, ⟨by rw [List.length_map]; exact hol, fun n e he hge => ?_⟩, r⟩))
    refine ⟨by rw [List.length_map]; omega, by rw [List.length_map, hol]; exact hge.len, fun r hr => ?_⟩
    obtain ⟨x, hx, rfl⟩ := List.mem_map.mp hr
    have ho := hoi x hx
    have hq := hge.row _ (ix_mem ho.1 ho.2)
    refine ⟨by rw [List.length_map]; exact hq.1, fun t ht => ?_⟩
    obtain ⟨u, hu, rfl⟩ := List.mem_map.mp ht
    have := hq.2 u hu
    rw [List.length_map, hol]
    unfold namedM
    split
    · rename_i z; have z := of_decide_eq_true z; omega
    · rename_i z
      simp only [decide_eq_true_eq] at z
      have := hpi _ (ix_mem (xs := place) (i := u) (by omega) (by omega))
      omega
end

def seedM (ns : List Int) : Int := ns.foldl (fun s c => (s * 31 + c % 1000003) % 1000003) 17
def cellM (ns : List Int) (k : Int) : Int := if k < ns.length then ix ns k else (seedM ns + 7) * (k + 3) * 69621 % 2147483647
def sp_law_cell (K : Fg) : Sp := spG K (fun i : List Int × Int => [.vl (tSq tI) i.1, .vl tI i.2]) (fun i => i.1.length ≤ 63 ∧ 0 ≤ i.2 ∧ i.2 < 100) tI (fun i => cellM i.1 i.2)
theorem seedM_b (ns : List Int) : 0 ≤ seedM ns ∧ seedM ns < 1000003 := by
  unfold seedM
  suffices h : ∀ (ns : List Int) (s : Int), 0 ≤ s ∧ s < 1000003 → 0 ≤ ns.foldl (fun s c => (s * 31 + c % 1000003) % 1000003) s ∧ ns.foldl (fun s c => (s * 31 + c % 1000003) % 1000003) s < 1000003 by
    exact h ns 17 (by omega)
  intro ns
  induction ns with
  | nil => intro s h; exact h
  | cons c ns ih => intro s h; exact ih _ (by simp only; omega)
theorem sc_law_cell : FnScope ["script", "k", "seed", "cell"] ["script", "k"] (defScope s_law_cell) := ⟨rfl, rfl, rfl, by decide +kernel, rfl, by decide +kernel, by decide +kernel⟩
section
variable {P : Program} {w : World} {K : Fg} {mg : Str → Option Value} {base : Heap}
theorem ok_law_cell {f : Addr} {fd : FuncData} (F : Fun K "_law_cell" "_law_cell" s_law_cell f fd) (b : Bi mg) : FnOk P w K mg base CX0 1 f fd ["script", "k"] (sp_law_cell K) := by
  refine fn_ok F sc_law_cell 2 rfl (fun _ => rfl) (fun cdv A outer s H E hr ⟨ns, k⟩ hp => ?_)
  dsimp only at hp ⊢
  obtain ⟨h63, hk0, hk1⟩ := hp
  refine b_cons (s_if (t_cv (e_var 1) (e_lenS b.len (e_var 0)) cv_lt) (fun h => ?_) (fun h => ?_))
  · have h := of_decide_eq_true h
    refine b_cons (s_ret (e_ixS (e_var 0) (e_var 1) (atI_ix (by omega) h)) (fun M v r => ?_))
    show v = V.int (cellM ns k)
    unfold cellM; rw [if_pos h]; exact r
  · have h := of_decide_eq_false h
    refine b_nil ?_
    refine b_cons (s_set 2 e_int ?_ sc_law_cell.nd)
    refine b_cons (s_forS 3 (fun m G' => G' = [.vl (tSq tI) ns, .vl tI k, .vl tI (seedM (ns.take m)), .un]) [.vl (tSq tI) ns, .vl tI k, .vl tI 17, .un] (e_var 0) (Sub.refl _) rfl ?_ ?_ sc_law_cell.nd rfl)
    · rintro m x _ hx rfl
      refine b_cons (s_set 2 (e_mod (e_intI b.int (e_add (e_mulR (e_var 2) e_int (by decide)) (e_mod (e_intI b.int (e_var 3)) e_int (by decide)))) e_int (by decide)) ?_ sc_law_cell.nd)
      refine B.weak (b_nil rfl) ?_
      have e : seedM (ns.take (m + 1)) = (seedM (ns.take m) * 31 + x % 1000003) % 1000003 := by
        unfold seedM; rw [take_snoc hx, List.foldl_append]; rfl
      rw [e]
      exact .same (.same (.same (.un .nil)))
    · rintro _ rfl
      have hb := seedM_b ns
      refine b_cons (s_ret (e_mod (e_intI b.int (e_mulR (e_mulL (e_add (e_var 2) e_int) (e_add (e_var 1) e_int) ?_) e_int (by decide))) e_int (by decide)) (fun M v r => ?_))
      · rw [List.take_length]; omega
      · show v = V.int (cellM ns k)
        unfold cellM; rw [if_neg h]
        rw [List.take_length] at r
        exact r
end

def knitSizes : List Int := ((([2] ++ [3, 4, 5, 40, 40, 5, 40]) ++ (List.replicate 3 [40, 40, 3, 4]).flatten) ++ [4, 40]) ++ (List.replicate 20 [150]).flatten
theorem knit_row (c : Int) : KnitRow (cut (digitsM c knitSizes) (some 1) none) := by
  have p := dig_good c knitSizes (by decide)
  have hl := digits_len c knitSizes
  have hk : knitSizes.length = 42 := by decide
  rw [hk] at hl
  have e : ∀ i : Int, 0 ≤ i → i < 41 → ix (cut (digitsM c knitSizes) (some 1) none) i = ix (digitsM c knitSizes) (i + 1) := fun i h0 h1 => by
    rw [cut_from _ (by decide)]
    apply ix_getElem h0
    rw [List.getElem?_drop]
    have := ixSome (xs := digitsM c knitSizes) (i := i + 1) (by omega) (by omega)
    rw [show (1 : Int).toNat + i.toNat = (i + 1).toNat by omega]
    exact this
  refine ⟨by rw [cut_from _ (by decide), List.length_drop, hl]; decide, ?_, fun k h0 h1 => ?_⟩
  · rw [e 1 (by omega) (by omega)]
    exact ix_paired p (i := 2) (by omega) (by rw [hk]; omega)
  · rw [e _ (by omega) (by omega)]
    have q := ix_paired p (i := 9 + 4 * k + 1) (by omega) (by rw [hk]; omega)
    have : k = 0 ∨ k = 1 ∨ k = 2 := by omega
    rcases this with rfl | rfl | rfl <;> exact q
def downSizes : List Int := (List.range 40).map fun k : Nat => 40 - (k : Int)
def sp_law_drawn (K : Fg) : Sp := spN K (fun i : List Int => [.vl (tSq tI) i]) (fun i => i.length ≤ 63) (tTup (tTup tI)) (fun i y => ∃ a c, y = [a, c] ∧ Good a 40 20 ∧ Good c 40 20)
section
variable {P : Program} {w : World} {K : Fg} {mg : Str → Option Value} {base : Heap}
theorem sc_law_drawn : FnScope ["script", "row", "kinds", "k", "order"] ["script"] (defScope s_law_drawn) := ⟨rfl, rfl, rfl, by decide +kernel, rfl, by decide +kernel, by decide +kernel⟩
theorem ok_law_drawn {f : Addr} {fd : FuncData} (F : Fun K "_law_drawn" "_law_drawn" s_law_drawn f fd) (b : Bi mg)
    (C_law_digits : Fn P w K mg base CX0 1 "_law_digits" ["cell", "sizes"] (sp_law_digits K)) (C_law_cell : Fn P w K mg base CX0 1 "_law_cell" ["script", "k"] (sp_law_cell K))
    (C_law_book_sizes : Fn P w K mg base CX0 1 "_law_book_sizes" ["n", "e"] (sp_law_book_sizes K)) (C_law_book : Fn P w K mg base CX0 2 "_law_book" ["row", "n", "e"] (sp_law_book K))
    (C_law_tower_sizes : Fn P w K mg base CX0 1 "_law_tower_sizes" ["n", "e"] (sp_law_tower_sizes K)) (C_law_tower : Fn P w K mg base CX0 2 "_law_tower" ["row", "n", "e"] (sp_law_tower K))
    (C_law_broad : Fn P w K mg base CX0 1 "_law_broad" ["kinds", "row", "limit"] (sp_law_broad K)) (C_law_knit : Fn P w K mg base CX0 2 "_law_knit" ["kinds", "row"] (sp_law_knit K))
    (C_law_order : Fn P w K mg base CX0 1 "_law_order" ["row", "many"] (sp_law_order K)) (C_law_renumbered : Fn P w K mg base CX0 2 "_law_renumbered" ["kinds", "order"] (sp_law_renumbered K)) : FnOk P w K mg base CX0 3 f fd ["script"] (sp_law_drawn K) := by
  refine fn_okN F sc_law_drawn 4 rfl (fun _ => rfl) (fun cdv A outer s H E hr script hp => ?_)
  have cell : ∀ k : Int, 0 ≤ k → k < 100 → (script.length ≤ 63 ∧ (0:Int) ≤ k ∧ k < 100) := fun k a c => ⟨hp, a, c⟩
  refine bn_cons (s_set 1 (e_call C_law_digits (hr.mono (by decide)) (cellM script 1, knitSizes) (ea_cons (e_call C_law_cell (hr.mono (by decide)) (script, 1) (ea_cons (e_var 0) (ea_cons e_int ea_nil)) (cell 1 (by omega) (by omega))) (ea_cons (EL.toE (el_cat (EL.toE (el_cat (EL.toE (el_cat (EL.toE (el_cat (EL.toE (el_lst (eh_cons e_int eh_nil))) (EL.toE (el_lst (eh_cons e_int (eh_cons e_int (eh_cons e_int (eh_cons e_int (eh_cons e_int (eh_cons e_int (eh_cons e_int eh_nil))))))))) (by decide))) (EL.toE (el_rep (EL.toE (el_lst (eh_cons e_int (eh_cons e_int (eh_cons e_int (eh_cons e_int eh_nil)))))) e_int (by decide) (by decide))) (by decide))) (EL.toE (el_lst (eh_cons e_int (eh_cons e_int eh_nil)))) (by decide))) (EL.toE (el_rep (EL.toE (el_lst (eh_cons e_int eh_nil))) e_int (by decide) (by decide))) (by decide))) ea_nil)) (show knitSizes.length ≤ 3000 ∧ ∀ s ∈ knitSizes, 0 < s ∧ s < 1073741824 from by decide)) ?_ sc_law_drawn.nd)
  dsimp only
  have hrl := digits_len (cellM script 1) knitSizes
  have hkr := knit_row (cellM script 1)
  rw [show knitSizes.length = 42 from by decide] at hrl
  generalize digitsM (cellM script 1) knitSizes = row at hrl hkr ⊢
  refine bn_cut (fun G' => ∃ ks, Good ks 40 4 ∧ G' = [.vl (tSq tI) script, .vl (tLst tI) row, .vl (tTup (tTup tI)) ks, .un, .un]) (s_if (t_cv (e_ixL (e_var 1) e_int (atI_ix (by omega) (by omega))) e_int cv_eqI) (fun h => ?_) (fun h => ?_)) ?_
  · refine b_cons (s_set 2 (e_call C_law_book (hr.mono (by decide)) (digitsM (cellM script 0) (bookSizesM 40 4), 40, 4) (ea_cons (e_call C_law_digits (hr.mono (by decide)) (cellM script 0, bookSizesM 40 4) (ea_cons (e_call C_law_cell (hr.mono (by decide)) (script, 0) (ea_cons (e_var 0) (ea_cons e_int ea_nil)) (cell 0 (by omega) (by omega))) (ea_cons (e_call C_law_book_sizes (hr.mono (by decide)) (40, 4) (ea_cons e_int (ea_cons e_int ea_nil)) (by decide)) ea_nil)) (bookSizes_ok (n := 40) (e := 4) (by omega) (by omega) (by omega) (by omega))) (ea_cons e_int (ea_cons e_int ea_nil))) (show ((2 ≤ (40:Int) ∧ (40:Int) ≤ 40) ∧ 2 ≤ (4:Int) ∧ (4:Int) ≤ 20) ∧ GoodRow (digitsM (cellM script 0) (bookSizesM 40 4)) 40 4 from ⟨by decide, digits_goodRow _ (by omega) (by omega) (by omega) (by omega)⟩)) ?_ sc_law_drawn.nd)
    exact b_nil ⟨_, bookM_good (n := 40) (e := 4) (by omega) (by omega) (digits_goodRow (cellM script 0) (by omega) (by omega) (by omega) (by omega)), rfl⟩
  · exact b_cons (s_setX 2 (ex_call (PR := fun y => Good y 40 4) C_law_tower (hr.mono (by decide)) (EA.toX (ea_cons (e_call C_law_digits (hr.mono (by decide)) (cellM script 0, towerSizesM 40 4) (ea_cons (e_call C_law_cell (hr.mono (by decide)) (script, 0) (ea_cons (e_var 0) (ea_cons e_int ea_nil)) (cell 0 (by omega) (by omega))) (ea_cons (e_call C_law_tower_sizes (hr.mono (by decide)) (40, 4) (ea_cons e_int (ea_cons e_int ea_nil)) (by decide)) ea_nil)) (towerSizes_ok (n := 40) (e := 4) (by omega) (by omega) (by omega) (by omega))) (ea_cons e_int (ea_cons e_int ea_nil)))) (fun ss hss => ⟨(digitsM (cellM script 0) (towerSizesM 40 4), 40, 4), hss.symm, ⟨(show (2 ≤ (40:Int) ∧ (40:Int) ≤ 40) ∧ 4 ≤ (4:Int) ∧ (4:Int) ≤ 20 from by decide), digits_tower _ (by omega) (by omega) (by omega) (by omega)⟩, fun y hy => hy⟩)) (fun y hy => b_nil ⟨y, hy, rfl⟩) sc_law_drawn.nd)
  rintro _ ⟨ks, hg, rfl⟩
  have hck : (cut row (some 20) none).length = 22 := by rw [cut_from _ (by decide), List.length_drop, hrl]; rfl
  refine bn_cons (s_setX 2 (ex_call (PR := fun y => Good y 40 20) C_law_broad (hr.mono (by decide)) (eax_cons (ex_call (PR := fun y => Good y 40 20) C_law_knit (hr.mono (by decide)) (EA.toX (ea_cons (e_var 2) (ea_cons (EL.toE (el_slice (e_var 1) (eo_some e_int) eo_none)) ea_nil))) (fun ss hss => ⟨(ks, cut row (some 1) none), hss.symm, ⟨hg, hkr⟩, fun y hy => hy⟩)) (EA.toX (ea_cons (EL.toE (el_slice (e_var 1) (eo_some e_int) eo_none)) (ea_cons e_int ea_nil)))) (fun ss hss => by
    obtain ⟨y, r, hy, rfl, rfl⟩ := hss
    exact ⟨(y, cut row (some 20) none, 20), rfl, ⟨hy, by dsimp only; omega, by dsimp only; omega⟩, fun z hz => hz⟩)) (fun kinds hg2 => ?_) sc_law_drawn.nd)
  have hpos := hg2.pos
  have hlen := hg2.len
  have hdl : (digitsM (cellM script 2) downSizes).length = 40 := by rw [digits_len]; decide
  refine bn_cons (s_setX 4 (ex_call (PR := fun y => (y.length : Int) = kinds.length ∧ inR kinds.length y) C_law_order (hr.mono (by decide)) (EA.toX (ea_cons (e_call C_law_digits (hr.mono (by decide)) (cellM script 2, downSizes) (ea_cons (e_call C_law_cell (hr.mono (by decide)) (script, 2) (ea_cons (e_var 0) (ea_cons e_int ea_nil)) (cell 2 (by omega) (by omega))) (ea_cons (EL.toE (el_lc (lc_R (f := fun k : Nat => 40 - (k : Int)) (own := [("k", 3)]) b.range e_int (by decide) 3 (fun s0 H C cl fp m hm => e_sub e_int (e_var 3)) (blkOk_by (N := ["script", "row", "kinds", "k", "order"]) (sc := defScope s_law_drawn) (by decide +kernel)) (fun _ _ _ _ _ => pg_name sc_law_drawn.nd rfl (by first | exact Or.inl rfl | exact Or.inr rfl))) rfl sc_law_drawn.nd)) ea_nil)) (show downSizes.length ≤ 3000 ∧ ∀ s ∈ downSizes, 0 < s ∧ s < 1073741824 from by decide)) (ea_cons (e_lenT b.len (e_var 2)) ea_nil))) (fun ss hss => ⟨(digitsM (cellM script 2) downSizes, (kinds.length : Int)), hss.symm, ⟨by dsimp only; omega, by dsimp only; omega⟩, fun y hy => hy⟩)) (fun order ho => ?_) sc_law_drawn.nd)
  exact bn_ret (elx_two (e_var 2) (ex_call (PR := fun y => Good y 40 20) C_law_renumbered (hr.mono (by decide)) (EA.toX (ea_cons (e_var 2) (ea_cons (e_var 4) ea_nil))) (fun ss hss => ⟨(kinds, order), hss.symm, ⟨hg2.mono (by omega) (by omega), by have := ho.1; dsimp only; omega, ho.2⟩, fun y hy => hy.2 40 20 (by omega) hg2⟩)) (fun y hy => ⟨kinds, y, rfl, hg2, hy⟩))
end

section
variable {P : Program} {w : World} {K : Fg} {mg : Str → Option Value} {base : Heap}
theorem scFrozen : FnScope ["value", "item"] ["value"] (defScope sfrozen) := ⟨rfl, rfl, rfl, by decide +kernel, rfl, by decide +kernel, by decide +kernel⟩
theorem st_frozen {f : Addr} {fd : FuncData} (F : Fun K "frozen" "frozen" sfrozen f fd) (b : Bi mg) (hm : mg "frozen" = some (.ref f)) (hb : Binds K fd ["value"] []) (n : Nat) (ih : ∀ m, n = m + 1 → FnOk P w K mg base CX0 (m + 1) f fd ["value"] (spFz K m)) : FnOk P w K mg base CX0 (n + 1) f fd ["value"] (spFz K n) := by
    refine fn_ok F scFrozen 1 rfl (fun _ => rfl) (fun cdv A outer s H E hr d hp => ?_)
    cases d with
    | list ds =>
      obtain ⟨m, rfl⟩ : ∃ m, n = m + 1 := by
        cases n with
        | zero => exact (show False from hp).elim
        | succ m => exact ⟨m, rfl⟩
      obtain ⟨hz, hf⟩ := hp
      refine b_cons (s_if (t_val (e_isD2 (dd := .list ds) (d1 := true) (d2 := false) b.isinstance (e_var 0) (e_Tlist b.list) (e_Ttuple b.tuple) (fun _ _ r => r) kb_list_list kb_list_tuple)) (fun _ => ?_) (fun h => by cases h))
      refine b_cons (s_ret (s := tTup tD) (x := ds.map frz) (e_tupL b.tuple (EL.toE (el_lc (lc_S (s := tD) (t := tD) (own := [("item", 1)]) (xs := ds) ((e_var 0).as (fun M v r => rep_DL r)) 1 (fun s0 H C cl fp m' x hx =>
        e_call ⟨f, fd, hm, F.kp, hb, ih m rfl⟩ hr _ (ea_cons (e_var 1) ea_nil) (hf x (List.mem_of_getElem? hx))) (blkOk_by (N := ["value", "item"]) (sc := defScope sfrozen) (by decide +kernel)) hz (fun _ _ _ _ _ => pg_name scFrozen.nd rfl (Or.inl rfl))) rfl scFrozen.nd))) (fun M v r => ?_))
      show Dp K M v (frz (.list ds))
      rw [frz, frzAll_map]; exact rep_TD r
    | tuple ds =>
      obtain ⟨m, rfl⟩ : ∃ m, n = m + 1 := by
        cases n with
        | zero => exact (show False from hp).elim
        | succ m => exact ⟨m, rfl⟩
      obtain ⟨hz, hf⟩ := hp
      refine b_cons (s_if (t_val (e_isD2 (dd := .tuple ds) (d1 := false) (d2 := true) b.isinstance (e_var 0) (e_Tlist b.list) (e_Ttuple b.tuple) (fun _ _ r => r) kb_tuple_list kb_tuple_tuple)) (fun _ => ?_) (fun h => by cases h))
      refine b_cons (s_ret (s := tTup tD) (x := ds.map frz) (e_tupL b.tuple (EL.toE (el_lc (lc_T (s := tD) (t := tD) (own := [("item", 1)]) (xs := ds) ((e_var 0).as (fun M v r => rep_DT r)) 1 (fun s0 H C cl fp m' x hx =>
        e_call ⟨f, fd, hm, F.kp, hb, ih m rfl⟩ hr _ (ea_cons (e_var 1) ea_nil) (hf x (List.mem_of_getElem? hx))) (blkOk_by (N := ["value", "item"]) (sc := defScope sfrozen) (by decide +kernel)) hz (fun _ _ _ _ _ => pg_name scFrozen.nd rfl (Or.inl rfl))) rfl scFrozen.nd))) (fun M v r => ?_))
      show Dp K M v (frz (.tuple ds))
      rw [frz, frzAll_map]; exact rep_TD r
    | none =>
      refine b_cons (s_if (t_val (e_isD2 (dd := .none) (d1 := false) (d2 := false) b.isinstance (e_var 0) (e_Tlist b.list) (e_Ttuple b.tuple) (fun _ _ r => r) kb_NoneType_list kb_NoneType_tuple)) (fun h => by cases h) (fun _ => b_nil ?_))
      exact b_cons (s_ret (e_var 0) (fun M v r => by show Dp K M v (frz .none); rw [frz]; exact r))
    | bool x =>
      refine b_cons (s_if (t_val (e_isD2 (dd := .bool x) (d1 := false) (d2 := false) b.isinstance (e_var 0) (e_Tlist b.list) (e_Ttuple b.tuple) (fun _ _ r => r) kb_bool_list kb_bool_tuple)) (fun h => by cases h) (fun _ => b_nil ?_))
      exact b_cons (s_ret (e_var 0) (fun M v r => by show Dp K M v (frz (.bool x)); rw [frz]; exact r))
    | int x =>
      refine b_cons (s_if (t_val (e_isD2 (dd := .int x) (d1 := false) (d2 := false) b.isinstance (e_var 0) (e_Tlist b.list) (e_Ttuple b.tuple) (fun _ _ r => r) kb_int_list kb_int_tuple)) (fun h => by cases h) (fun _ => b_nil ?_))
      exact b_cons (s_ret (e_var 0) (fun M v r => by show Dp K M v (frz (.int x)); rw [frz]; exact r))
    | str x =>
      refine b_cons (s_if (t_val (e_isD2 (dd := .str x) (d1 := false) (d2 := false) b.isinstance (e_var 0) (e_Tlist b.list) (e_Ttuple b.tuple) (fun _ _ r => r) kb_str_list kb_str_tuple)) (fun h => by cases h) (fun _ => b_nil ?_))
      exact b_cons (s_ret (e_var 0) (fun M v r => by show Dp K M v (frz (.str x)); rw [frz]; exact r))
    | dict kvs => cases n <;> exact (show False from hp).elim
theorem ok_frozen {f : Addr} {fd : FuncData} (F : Fun K "frozen" "frozen" sfrozen f fd) (b : Bi mg) (hm : mg "frozen" = some (.ref f)) (hb : Binds K fd ["value"] []) (n : Nat) : FnOk P w K mg base CX0 (n + 1) f fd ["value"] (spFz K n) := by
  induction n with
  | zero => exact st_frozen F b hm hb 0 fun m e => by cases e
  | succ n ih => exact st_frozen F b hm hb (n + 1) fun m e => by cases e; exact ih
end

section
variable {P : Program} {w : World} {K : Fg} {mg : Str → Option Value} {base : Heap}
theorem scis_whole : FnScope ["value"] ["value"] (defScope sis_whole) := ⟨rfl, rfl, rfl, by decide +kernel, rfl, by decide +kernel, by decide +kernel⟩
theorem okis_whole {f : Addr} {fd : FuncData} (F : Fun K "is_whole" "is_whole" sis_whole f fd) (b : Bi mg) : FnOk P w K mg base CX0 1 f fd ["value"] (spWhole K) := by
  refine fn_ok F scis_whole 0 rfl (fun _ => rfl) (fun cdv A outer s H E hr d hp => ?_)
  refine b_cons (s_ret (e_and (e_isD (dd := d) b.isinstance (e_var 0) (e_Tint b.int) (fun _ _ r => r) (kbI d)) (fun _ => e_one (e_not (e_isD (dd := d) b.isinstance (e_var 0) (e_Tbool b.bool) (fun _ _ r => r) (kbB d))))) (fun M v r => ?_))
  exact ret_is r (wholeD_eq d)
end

def isTargetM (value : Int) (many : Int) : Bool := decide (-3 ≤ value) && decide (value < many)
def spis_target (K : Fg) : Sp := spG K (fun i : Int × Int => [.vl tI i.1, .vl tI i.2]) (fun i => True) tB (fun i => isTargetM i.1 i.2)
section
variable {P : Program} {w : World} {K : Fg} {mg : Str → Option Value} {base : Heap}
theorem sc_is_target : FnScope ["value", "many"] ["value", "many"] (defScope sis_target) := ⟨rfl, rfl, rfl, by decide +kernel, rfl, by decide +kernel, by decide +kernel⟩
theorem okis_target {f : Addr} {fd : FuncData} (F : Fun K "is_target" "is_target" sis_target f fd) (b : Bi mg) (Cis_whole : Fn P w K mg base CX0 1 "is_whole" ["value"] (spWhole K)) : FnOk P w K mg base CX0 2 f fd ["value", "many"] (spis_target K) := by
  refine fn_ok F sc_is_target 0 rfl (fun _ => rfl) (fun cdv A outer s H E hr ⟨value, many⟩ hp => ?_)
  dsimp only at hp ⊢
  refine b_cons (s_ret (e_and (e_call Cis_whole (hr.mono (by decide)) _ (ea_cons (TL.E.as (t := tD) (y := .int _) (e_var 0) (fun _ _ r => dp_I r)) ea_nil) trivial) (fun h => (e_one (e_chain (e_neg e_int) (e_var 0) (e_var 1) cv_le (fun _ => cv_lt) (r0 := ⟨_, op_lt⟩))))) (fun M v r => ?_))
  exact ret_is r (by unfold isTargetM; rfl)
end

def spBook__init__ (K : Fg) (C : Addr) : Sp := spI K C (fun i : PyData × List (List Int) => [.vl tD i.1]) (fun i => (Fit 2 i.1 ∧ frz i.1 = dTab i.2) ∧ Good i.2 1000 1000) (fun i => bookFs i.2)
theorem target_of {n : Nat} {t : Int} (h : -3 ≤ t ∧ t < n) : isTargetM t (n : Int) = true := by
  unfold isTargetM; simp; omega
section
variable {P : Program} {w : World} {K : Fg} {mg : Str → Option Value} {base : Heap}
theorem sc_Book__init__ : FnScope ["self", "kinds", "copied", "kind", "place"] ["self", "kinds"] (defScope sBook__init__) := ⟨rfl, rfl, rfl, by decide +kernel, rfl, by decide +kernel, by decide +kernel⟩
theorem okBook__init__ {C : Addr} (hC : Cls K C) (hna : NoAttr K C "kinds") {f : Addr} {fd : FuncData} (F : Fun K "__init__" "Book.__init__" sBook__init__ f fd) (b : Bi mg) (Cfrozen : Fn P w K mg base CX0 3 "frozen" ["value"] (spFz K 2)) (Cis_target : Fn P w K mg base CX0 2 "is_target" ["value", "many"] (spis_target K)) : FnOk P w K mg base CX0 4 f fd ["self", "kinds"] (spBook__init__ K C) := by
  refine fn_init F sc_Book__init__ 3 rfl (fun _ => rfl) (fun cdv A outer s H E hr ⟨d, ks⟩ p dx hp => ?_)
  dsimp only at hp ⊢
  obtain ⟨⟨hf, hz⟩, hg⟩ := hp
  have hpos := hg.pos
  have hlen := hg.len
  refine b_cons (s_set 2 (TL.E.as (t := tTup (tTup tI)) (y := ks) (e_call Cfrozen (hr.mono (by decide)) d (ea_cons (e_var 1) ea_nil) hf) (fun M v r => by rw [hz] at r; exact pd_tab r)) ?_ sc_Book__init__.nd)
  refine b_cons (s_if (t_cv (e_lenT b.len (e_var 2)) e_int cv_eqI) (fun h => b_never (by have := of_decide_eq_true h; omega)) (fun h => b_nil ?_))
  refine b_cons (s_forR 3 (fun m G' => G' = [.ob p dx C [], .vl tD d, .vl (tTup (tTup tI)) ks, .un, .un]) _ b.range (e_lenT b.len (e_var 2)) (by omega) (Sub.refl _) rfl ?_ ?_ sc_Book__init__.nd rfl)
  · rintro m _ hm rfl
    have hrow := hg.row _ (ix_mem (xs := ks) (i := (m : Int)) (by omega) (by omega))
    refine b_cons (s_forR 4 (fun j G' => G' = [.ob p dx C [], .vl tD d, .vl (tTup (tTup tI)) ks, .vl tI (m : Int), .un]) _ b.range (e_lenT b.len (e_ixT (e_var 2) (e_var 3) (atI_ix (by omega) (by omega)))) (by omega) (Sub.refl _) rfl ?_ ?_ sc_Book__init__.nd rfl)
    · rintro j _ hj rfl
      have ht := hrow.2 _ (ix_mem (xs := ix ks (m : Int)) (i := (j : Int)) (by omega) (by omega))
      refine b_cons (s_if (t_not (t_val (e_call Cis_target (hr.mono (by decide)) (ix (ix ks (m : Int)) (j : Int), (ks.length : Int)) (ea_cons (e_ixT (e_ixT (e_var 2) (e_var 3) (atI_ix (by omega) (by omega))) (e_var 4) (atI_ix (by omega) (by omega))) (ea_cons (e_lenT b.len (e_var 2)) ea_nil)) trivial))) (fun h => b_never ?_) (fun h => b_nil ?_))
      · dsimp only at h; rw [target_of ht] at h; cases h
      · exact B.weak (b_nil rfl) (.same (.same (.same (.same (.un .nil)))))
    · rintro _ rfl
      exact B.weak (b_nil rfl) (.same (.same (.same (.un (.un .nil)))))
  · rintro _ rfl
    refine b_cons (s_fldNew 0 rfl (e_var 2) hC hna rfl (by decide) ?_)
    exact b_nil rfl
end

def movedM (kinds : List (List Int)) (amount : Int) : List (List Int) := kinds.map fun kind => kind.map fun t => if decide (0 ≤ t) = true then t + amount else t
def spmoved_kinds (K : Fg) : Sp := spG K (fun i : List (List Int) × Int => [.vl (tTup (tTup tI)) i.1, .vl tI i.2]) (fun i => i.1.length ≤ 1000 ∧ ∀ r ∈ i.1, r.length ≤ 1000) (tTup (tTup tI)) (fun i => movedM i.1 i.2)
section
variable {P : Program} {w : World} {K : Fg} {mg : Str → Option Value} {base : Heap}
theorem sc_moved_kinds : FnScope ["kinds", "amount", "target", "kind"] ["kinds", "amount"] (defScope smoved_kinds) := ⟨rfl, rfl, rfl, by decide +kernel, rfl, by decide +kernel, by decide +kernel⟩
theorem okmoved_kinds {f : Addr} {fd : FuncData} (F : Fun K "moved_kinds" "moved_kinds" smoved_kinds f fd) (b : Bi mg)  : FnOk P w K mg base CX0 1 f fd ["kinds", "amount"] (spmoved_kinds K) := by
  refine fn_ok F sc_moved_kinds 2 rfl (fun _ => rfl) (fun cdv A outer s H E hr ⟨kinds, amount⟩ hp => ?_)
  dsimp only at hp ⊢
  obtain ⟨h1, h2⟩ := hp
  refine b_cons (s_ret (e_tupL b.tuple (EL.toE (el_lc (lc_T (own := [("kind", 3)]) (e_var 0) 3 (fun s0 H C cl fp m x hx => (e_tupL b.tuple (EL.toE (el_lc (lc_T (own := [("target", 2)]) (e_var 3) 2 (fun s0 H C cl fp m x hx => (e_if (t_cv (e_var 2) e_int cv_ge) (fun h => (e_add (e_var 2) (e_var 1))) (fun h => (e_var 2)))) (blkIn (N := ["kinds", "amount", "target", "kind"]) (by decide +kernel)) (by have := h2 x (List.mem_of_getElem? hx); omega) (fun _ _ _ _ _ => pg_name sc_moved_kinds.nd rfl (by first | exact Or.inl rfl | exact Or.inr rfl))) rfl sc_moved_kinds.nd)))) (blkOk_by (N := ["kinds", "amount", "target", "kind"]) (sc := defScope smoved_kinds) (by decide +kernel)) (by omega) (fun _ _ _ _ _ => pg_name sc_moved_kinds.nd rfl (by first | exact Or.inl rfl | exact Or.inr rfl))) rfl sc_moved_kinds.nd))) (fun M v r => ?_))
  exact r
end

def sumM (l r : List (List Int)) : List (List Int) := ([[1, 1 + (l.length : Int)]] ++ movedM l 1) ++ movedM r (1 + (l.length : Int))
theorem moved_len (l : List (List Int)) (a : Int) : (movedM l a).length = l.length := by unfold movedM; rw [List.length_map]
theorem sum_good {l r : List (List Int)} {n m e : Int} (hl : Good l n e) (hr : Good r m e) (he : 2 ≤ e) : Good (sumM l r) (1 + n + m) e := by
  have p1 := hl.pos
  have p2 := hr.pos
  have l1 := hl.len
  have l2 := hr.len
  have ln : (sumM l r).length = 1 + l.length + r.length := by unfold sumM; rw [List.length_append, List.length_append, moved_len, moved_len]; simp
  refine ⟨by rw [ln]; omega, by rw [ln]; omega, fun x hx => ?_⟩
  rw [ln]
  have mv : ∀ (ks : List (List Int)) (a N : Int), Good ks N e → 0 ≤ a → (∀ y ∈ movedM ks a, (y.length : Int) ≤ e ∧ ∀ t ∈ y, -3 ≤ t ∧ t < ks.length + a) := fun ks a N hk ha y hy => by
    obtain ⟨z, hz, rfl⟩ := List.mem_map.mp hy
    have hq := hk.row z hz
    refine ⟨by rw [List.length_map]; exact hq.1, fun t ht => ?_⟩
    obtain ⟨u, hu, rfl⟩ := List.mem_map.mp ht
    have := hq.2 u hu
    split
    · rename_i c; have c := of_decide_eq_true c; omega
    · omega
  rcases List.mem_append.mp hx with y | y
  · rcases List.mem_append.mp y with y | y
    · rw [List.mem_singleton.mp y]
      refine ⟨by simp; omega, fun t ht => ?_⟩
      simp only [List.mem_cons, List.not_mem_nil, or_false] at ht
      omega
    · have q := mv l 1 n hl (by omega) x y
      exact ⟨q.1, fun t ht => by have := q.2 t ht; omega⟩
  · have q := mv r (1 + (l.length : Int)) m hr (by omega) x y
    exact ⟨q.1, fun t ht => by have := q.2 t ht; omega⟩
def spBook__add__ (K : Fg) (C : Addr) : Sp := spG K (fun i : List (List Int) × List (List Int) => [.vl (tBook C) i.1, .vl (tBook C) i.2]) (fun i => Good i.1 100 100 ∧ Good i.2 100 100) (tBook C) (fun i => sumM i.1 i.2)
section
variable {P : Program} {w : World} {K : Fg} {mg : Str → Option Value} {base : Heap}
theorem sc_Book__add__ : FnScope ["self", "other", "second", "first_kind"] ["self", "other"] (defScope sBook__add__) := ⟨rfl, rfl, rfl, by decide +kernel, rfl, by decide +kernel, by decide +kernel⟩
theorem okBook__add__ {C : Addr} (hC : Cls K C) (hna : NoAttr K C "kinds") {f : Addr} {fd : FuncData} (F : Fun K "__add__" "Book.__add__" sBook__add__ f fd) (b : Bi mg) (CBook : Mkr P w K mg base 4 "Book" C ["self", "kinds"] (spBook__init__ K C)) (Cmoved_kinds : Fn P w K mg base CX0 1 "moved_kinds" ["kinds", "amount"] (spmoved_kinds K)) : FnOk P w K mg base CX0 6 f fd ["self", "other"] (spBook__add__ K C) := by
  refine fn_ok F sc_Book__add__ 2 rfl (fun _ => rfl) (fun cdv A outer s H E hr ⟨l, r⟩ hp => ?_)
  dsimp only at hp ⊢
  obtain ⟨h1, h2⟩ := hp
  have hl := h1.len
  have hl2 := h2.len
  have hs := sum_good h1 h2 (by omega)
  have hfit := hs.row
  have hsl := hs.len
  have m1 := moved_len l 1
  have m2 := moved_len r (1 + (l.length : Int))
  refine b_cons (s_set 2 (e_add e_int (e_lenT b.len (e_kinds (e_var 0) hC hna))) ?_ sc_Book__add__.nd)
  refine b_cons (s_set 3 (e_tup (eh_cons e_int (eh_cons (e_var 2) eh_nil))) ?_ sc_Book__add__.nd)
  exact b_cons (s_ret (TL.E.as (t := tBook C) (y := sumM l r) (e_mk CBook (hr.mono (by decide)) (dTab (sumM l r), sumM l r) (ea_cons (TL.E.as (t := tD) (y := dTab (sumM l r)) (e_catA (e_catA (e_tup (eh_cons (e_var 3) eh_nil)) (e_call Cmoved_kinds (hr.mono (by decide)) (l, 1) (ea_cons (e_kinds (e_var 0) hC hna) (ea_cons e_int ea_nil)) (show l.length ≤ 1000 ∧ ∀ x ∈ l, x.length ≤ 1000 from ⟨by omega, fun x hx => by have := (h1.row x hx).1; omega⟩)) (by show 1 + (movedM l 1).length ≤ _; omega)) (e_call Cmoved_kinds (hr.mono (by decide)) (r, 1 + (l.length : Int)) (ea_cons (e_kinds (e_var 1) hC hna) (ea_cons (e_var 2) ea_nil)) (show r.length ≤ 1000 ∧ ∀ x ∈ r, x.length ≤ 1000 from ⟨by omega, fun x hx => by have := (h2.row x hx).1; omega⟩)) (by show ([[1, 1 + (l.length : Int)]] ++ movedM l 1).length + (movedM r (1 + (l.length : Int))).length ≤ _; rw [List.length_append]; simp; omega)) (fun _ _ r => dp_tab r)) ea_nil) (show (Fit 2 (dTab (sumM l r)) ∧ frz (dTab (sumM l r)) = dTab (sumM l r)) ∧ Good (sumM l r) 1000 1000 from ⟨⟨fit_tab (by omega) (fun x hx => by have := (hs.row x hx).1; omega), frz_dTab _⟩, hs.mono (by omega) (by omega)⟩)) (fun _ _ r => r)) (fun M v r => r))
end

theorem sum_row (kind : List Int) (a : Int) : (kind.map fun t : Int => ix [t, t + a] (if decide (0 ≤ t) = true then 1 else 0)) = kind.map fun t => if decide (0 ≤ t) = true then t + a else t := by
  apply List.map_congr_left
  intro t _
  split
  · exact ix_getElem (by omega) rfl
  · exact ix_getElem (by omega) rfl
theorem moved_take {ks : List (List Int)} {a : Int} {m : Nat} {x : List Int} (h : ks[m]? = some x) : movedM (ks.take (m + 1)) a = movedM (ks.take m) a ++ [x.map fun t => if decide (0 ≤ t) = true then t + a else t] := by
  unfold movedM; rw [take_snoc h, List.map_append]; rfl
def sp_law_sum (K : Fg) : Sp := spG K (fun i : List (List Int) × List (List Int) => [.vl (tTup (tTup tI)) i.1, .vl (tTup (tTup tI)) i.2]) (fun i => Good i.1 100 100 ∧ Good i.2 100 100) (tTup (tTup tI)) (fun i => sumM i.1 i.2)
section
variable {P : Program} {w : World} {K : Fg} {mg : Str → Option Value} {base : Heap}
theorem sc_law_sum : FnScope ["left", "right", "shift", "found", "kind", "t"] ["left", "right"] (defScope s_law_sum) := ⟨rfl, rfl, rfl, by decide +kernel, rfl, by decide +kernel, by decide +kernel⟩
theorem ok_law_sum {f : Addr} {fd : FuncData} (F : Fun K "_law_sum" "_law_sum" s_law_sum f fd) (b : Bi mg) : FnOk P w K mg base CX0 1 f fd ["left", "right"] (sp_law_sum K) := by
  refine fn_ok F sc_law_sum 4 rfl (fun _ => rfl) (fun cdv A outer s H E hr ⟨left, right⟩ hp => ?_)
  dsimp only at hp ⊢
  obtain ⟨h1, h2⟩ := hp
  have hl1 := h1.len
  have hl2 := h2.len
  refine b_cons (s_set 2 (e_add e_int (e_lenT b.len (e_var 0))) ?_ sc_law_sum.nd)
  refine b_cons (s_own 3 (el_lst (eh_cons (e_tup (eh_cons e_int (eh_cons (e_var 2) eh_nil))) eh_nil)) ?_ sc_law_sum.nd)
  refine b_cons (s_forT 4 (fun m G' => G' = [.vl (tTup (tTup tI)) left, .vl (tTup (tTup tI)) right, .vl tI (1 + (left.length : Int)), .ow (tTup tI) ([[1, 1 + (left.length : Int)]] ++ movedM (left.take m) 1), .un, .un]) _ (e_var 0) (Sub.refl _) rfl ?_ ?_ sc_law_sum.nd rfl)
  · rintro m kind _ hx rfl
    have hk := h1.row kind (List.mem_of_getElem? hx)
    have hm := (List.getElem?_eq_some_iff.mp hx).1
    have hml : (movedM (left.take m) 1).length ≤ m := by rw [moved_len, List.length_take]; omega
    rw [moved_take hx, ← List.append_assoc]
    refine b_cons (s_app 3 rfl (TL.E.is (e_tupL b.tuple (EL.toE (el_lc (lc_T (f := fun t : Int => ix [t, t + 1] (if decide (0 ≤ t) = true then 1 else 0)) (xs := kind) (own := [("t", 5)]) (e_var 4) 5 (fun s0 H C cl fp j t ht => e_ixL (EL.toE (el_lst (eh_cons (e_var 5) (eh_cons (e_add (e_var 5) e_int) eh_nil)))) (e_intB b.int (e_cv (e_var 5) e_int cv_ge)) (atI_ix (by split <;> (simp only [List.length_cons, List.length_nil]; omega)) (by split <;> (simp only [List.length_cons, List.length_nil]; omega)))) (blkOk_by (N := ["left", "right", "shift", "found", "kind", "t"]) (sc := defScope s_law_sum) (by decide +kernel)) (by have := hk.1; omega) (fun _ _ _ _ _ => pg_name sc_law_sum.nd rfl (by first | exact Or.inl rfl | exact Or.inr rfl))) rfl sc_law_sum.nd))) (sum_row kind 1)) (by rw [List.length_append]; simp; omega) ?_)
    exact B.weak (b_nil rfl) (.same (.same (.same (.same (.un (.un .nil))))))
  · rintro _ rfl
    rw [List.take_length]
    refine b_cons (s_forT 4 (fun m G' => G' = [.vl (tTup (tTup tI)) left, .vl (tTup (tTup tI)) right, .vl tI (1 + (left.length : Int)), .ow (tTup tI) (([[1, 1 + (left.length : Int)]] ++ movedM left 1) ++ movedM (right.take m) (1 + (left.length : Int))), .un, .un]) _ (e_var 1) (Sub.refl _) (by rw [List.take_zero]; show _ = [_, _, _, Sl.ow (tTup tI) (_ ++ []), _, _]; rw [List.append_nil]) ?_ ?_ sc_law_sum.nd rfl)
    · rintro m kind _ hx rfl
      have hk := h2.row kind (List.mem_of_getElem? hx)
      have hm := (List.getElem?_eq_some_iff.mp hx).1
      have hml : (movedM (right.take m) (1 + (left.length : Int))).length ≤ m := by rw [moved_len, List.length_take]; omega
      have hll : (movedM left 1).length = left.length := moved_len _ _
      rw [moved_take hx, ← List.append_assoc]
      refine b_cons (s_app 3 rfl (TL.E.is (e_tupL b.tuple (EL.toE (el_lc (lc_T (f := fun t : Int => ix [t, t + (1 + (left.length : Int))] (if decide (0 ≤ t) = true then 1 else 0)) (xs := kind) (own := [("t", 5)]) (e_var 4) 5 (fun s0 H C cl fp j t ht => e_ixL (EL.toE (el_lst (eh_cons (e_var 5) (eh_cons (e_add (e_var 5) (e_var 2)) eh_nil)))) (e_intB b.int (e_cv (e_var 5) e_int cv_ge)) (atI_ix (by split <;> (simp only [List.length_cons, List.length_nil]; omega)) (by split <;> (simp only [List.length_cons, List.length_nil]; omega)))) (blkOk_by (N := ["left", "right", "shift", "found", "kind", "t"]) (sc := defScope s_law_sum) (by decide +kernel)) (by have := hk.1; omega) (fun _ _ _ _ _ => pg_name sc_law_sum.nd rfl (by first | exact Or.inl rfl | exact Or.inr rfl))) rfl sc_law_sum.nd))) (sum_row kind (1 + (left.length : Int)))) (by rw [List.length_append, List.length_append]; simp; omega) ?_)
      exact B.weak (b_nil rfl) (.same (.same (.same (.same (.un (.un .nil))))))
    · rintro _ rfl
      rw [List.take_length]
      exact b_cons (s_ret (e_read 3 rfl (imm_T (imm_T imm_I)) (e_tupL b.tuple (e_var 3))) (fun M v r => r))
end

theorem filter_one : ∀ {ws : List Int} {x : Int}, ws.Nodup → x ∈ ws → (ws.filter fun h => !decide (h = x)).length + 1 = ws.length
  | [], x, _, h => by cases h
  | w :: ws, x, hn, h => by
    obtain ⟨h1, h2⟩ := List.nodup_cons.mp hn
    by_cases z : w = x
    · subst z
      have e : (ws.filter fun h => !decide (h = w)) = ws := List.filter_eq_self.mpr fun a ha => by
        have : a ≠ w := fun q => h1 (q ▸ ha)
        simpa using this
      rw [List.filter_cons_of_neg (by simp), e, List.length_cons]
    · have hx : x ∈ ws := (List.mem_cons.mp h).resolve_left (Ne.symm z)
      rw [List.filter_cons_of_pos (by simpa using z), List.length_cons, List.length_cons, filter_one h2 hx]
theorem heads_nodup (tb : List (List Bool)) : (headsM tb).Nodup := by
  unfold headsM
  exact List.pairwise_map.mpr ((List.nodup_range.filter _).imp fun h => by omega)
theorem mates_cond {tb : List (List Bool)} {k : Nat} (hk : k < tb.length) : (decide (0 < ((aroundM tb (k : Int)).length : Int)) && decide (ix (aroundM tb (k : Int)) 0 = (k : Int))) = (ix (ix tb (k : Int)) (k : Int) && decide (ix (aroundM tb (k : Int)) 0 = (k : Int))) := by
  by_cases z : ix (aroundM tb (k : Int)) 0 = (k : Int)
  · rw [decide_eq_true z, Bool.and_true, Bool.and_true, Bool.eq_iff_iff, decide_eq_true_eq]
    constructor
    · intro h
      have hm : (k : Int) ∈ aroundM tb (k : Int) := by
        have := ix_mem (xs := aroundM tb (k : Int)) (i := 0) (by omega) (by omega)
        rw [z] at this; exact this
      obtain ⟨o, _, e, h1, _⟩ := mem_around.mp hm
      rw [← e] at h1; exact h1
    · intro h
      have := List.length_pos_of_mem (around_self hk h)
      omega
  · rw [decide_eq_false z, Bool.and_false, Bool.and_false]
def wtM (tb : List (List Bool)) (m : Nat) : List (List Int) := ((List.range m).filter fun k : Nat => ix (ix tb (k : Int)) (k : Int) && decide (ix (aroundM tb (k : Int)) 0 = (k : Int))).map fun k : Nat => aroundM tb (k : Int)
theorem wtM_all (tb : List (List Bool)) : wtM tb tb.length = (headsM tb).map (aroundM tb) := by
  unfold wtM headsM; rw [List.map_map]; rfl
def sp_law_knots (K : Fg) : Sp := spG K (fun i : List (List Bool) => [.vl (tLst (tLst tB)) i]) (fun i => Trn i) (tLst (tTup tI)) (fun i => klM i (headsM i).length (headsM i))
section
variable {P : Program} {w : World} {K : Fg} {mg : Str → Option Value} {base : Heap}
theorem sc_law_knots : FnScope ["reach", "many", "waiting", "k", "mates", "j", "listed", "turn", "free", "knot"] ["reach"] (defScope s_law_knots) := ⟨rfl, rfl, rfl, by decide +kernel, rfl, by decide +kernel, by decide +kernel⟩
theorem ok_law_knots {f : Addr} {fd : FuncData} (F : Fun K "_law_knots" "_law_knots" s_law_knots f fd) (b : Bi mg) (C_law_touches : Fn P w K mg base CX0 1 "_law_touches" ["reach", "knot", "others"] (sp_law_touches K)) : FnOk P w K mg base CX0 2 f fd ["reach"] (sp_law_knots K) := by
  refine fn_ok F sc_law_knots 9 rfl (fun _ => rfl) (fun cdv A outer s H E hr tb T => ?_)
  have hl := T.sq.len
  have hrow := fun (o : Nat) (h : (o : Int) < tb.length) => T.sq.row _ (ix_mem (xs := tb) (i := (o : Int)) (by omega) h)
  refine b_cons (s_set 1 (e_lenL b.len (e_var 0)) ?_ sc_law_knots.nd)
  refine b_cons (s_own 2 (el_lst (s := tTup tI) eh_nil) ?_ sc_law_knots.nd)
  refine b_cons (s_forR 3 (fun m G' => G' = [.vl (tLst (tLst tB)) tb, .vl tI (tb.length : Int), .ow (tTup tI) (wtM tb m), .un, .un, .un, .un, .un, .un, .un]) _ b.range (e_var 1) (by omega) (Sub.refl _) rfl ?_ ?_ sc_law_knots.nd rfl)
  · rintro m _ hm rfl
    have hmr := hrow m hm
    refine b_cons (s_lc 4 (lc_RF (f := fun o : Nat => (o : Int)) (g := fun o : Nat => ix (ix tb (m : Int)) (o : Int) && ix (ix tb (o : Int)) (m : Int)) (own := [("j", 5)]) b.range (e_var 1) (by omega) 5 (fun s0 H C cl fp o ho => (TW.toT (w_and (t_val (e_ixL (e_ixL (e_var 0) (e_var 3) (atI_ix (by omega) (by omega))) (e_var 5) (atI_ix (by omega) (by omega)))) (fun h => (w_and1 (t_val (e_ixL (e_ixL (e_var 0) (e_var 5) (atI_ix (by omega) (by omega))) (e_var 3) (atI_ix (by have := hrow o ho; omega) (by have := hrow o ho; omega))))))))) (fun s0 H C cl fp o ho hd => (e_var 5)) (blkOk_by (N := ["reach", "many", "waiting", "k", "mates", "j", "listed", "turn", "free", "knot"]) (sc := defScope s_law_knots) (by decide +kernel)) (fun _ _ _ _ _ => pg_name sc_law_knots.nd rfl (by first | exact Or.inl rfl | exact Or.inr rfl))) ?_ rfl sc_law_knots.nd)
    have em : ((List.range (tb.length : Int).toNat).filter (fun o : Nat => ix (ix tb (m : Int)) (o : Int) && ix (ix tb (o : Int)) (m : Int))).map (fun o : Nat => (o : Int)) = aroundM tb (m : Int) := by rw [Int.toNat_natCast]; rfl
    rw [em]
    have hwl : (wtM tb m).length ≤ m := by
      unfold wtM; rw [List.length_map]
      have := List.length_filter_le (fun k : Nat => ix (ix tb (k : Int)) (k : Int) && decide (ix (aroundM tb (k : Int)) 0 = (k : Int))) (List.range m)
      rw [List.length_range] at this; exact this
    refine b_freeze 4 rfl ?_
    have hs : wtM tb (m + 1) = wtM tb m ++ (if (ix (ix tb (m : Int)) (m : Int) && decide (ix (aroundM tb (m : Int)) 0 = (m : Int))) = true then [aroundM tb (m : Int)] else []) := by
      unfold wtM
      rw [List.range_succ, List.filter_append, List.map_append]
      congr 1
      split
      · rename_i h; rw [List.filter_cons_of_pos (p := fun k : Nat => ix (ix tb (k : Int)) (k : Int) && decide (ix (aroundM tb (k : Int)) 0 = (k : Int))) h]; rfl
      · rename_i h; rw [List.filter_cons_of_neg (p := fun k : Nat => ix (ix tb (k : Int)) (k : Int) && decide (ix (aroundM tb (k : Int)) 0 = (k : Int))) h]; rfl
    refine b_cut (fun G' => ∃ a, G' = [.vl (tLst (tLst tB)) tb, .vl tI (tb.length : Int), .ow (tTup tI) (wtM tb (m + 1)), .vl tI (m : Int), a, .un, .un, .un, .un, .un]) (s_if (TW.toT (w_and (t_cv (e_lenL b.len (e_var 4)) e_int cv_gt) (fun h => w_and1 (t_cv (e_ixL (e_var 4) e_int (atI_ix (by have := of_decide_eq_true h; omega) (by have := of_decide_eq_true h; omega))) (e_var 3) cv_eqI)))) (fun h => ?_) (fun h => ?_)) ?_
    · rw [mates_cond (by omega)] at h
      rw [hs, if_pos h]
      refine b_cons (s_app 2 rfl (e_tupL b.tuple (e_var 4)) (by omega) ?_)
      exact b_nil ⟨_, rfl⟩
    · rw [mates_cond (by omega)] at h
      rw [hs, if_neg (nt h), List.append_nil]
      exact b_nil ⟨_, rfl⟩
    rintro _ ⟨a, rfl⟩
    exact B.weak (b_nil rfl) (.same (.same (.same (.un (.un (.un (.un (.un (.un (.un .nil))))))))))
  · rintro _ rfl
    rw [Int.toNat_natCast, wtM_all]
    refine b_freeze 2 rfl ?_
    refine b_cons (s_own 6 (el_lst (s := tTup tI) eh_nil) ?_ sc_law_knots.nd)
    have hhd := heads_hd (tb := tb)
    have hnd := heads_nodup tb
    have hhl : (headsM tb).length ≤ 1000 := by
      unfold headsM; rw [List.length_map]
      have := List.length_filter_le (fun k : Nat => ix (ix tb (k : Int)) (k : Int) && decide (ix (aroundM tb (k : Int)) 0 = (k : Int))) (List.range tb.length)
      rw [List.length_range] at this
      omega
    generalize headsM tb = hs at hhd hnd hhl ⊢
    refine b_cons (s_forR 7 (fun m G' => ∃ (ws : List Int) (ls : List (List Int)), (ws.length + m = hs.length ∧ (∀ o ∈ ws, Hd tb o) ∧ ws.Nodup ∧ ls ++ klM tb ws.length ws = klM tb hs.length hs ∧ ls.length = m) ∧ G' = [.vl (tLst (tLst tB)) tb, .vl tI (tb.length : Int), .vl (tLst (tTup tI)) (ws.map (aroundM tb)), .un, .un, .un, .ow (tTup tI) ls, .un, .un, .un]) _ b.range (e_lenL b.len (e_var 2)) (by rw [List.length_map]; omega) (.same (.same (.same (.un (.un (.un (.same (.un (.un (.un .nil)))))))))) ⟨hs, [], ⟨rfl, hhd, hnd, rfl, rfl⟩, rfl⟩ ?_ ?_ sc_law_knots.nd rfl)
    · rintro m _ hm ⟨ws, ls, ⟨h1, h2, h3, h4, h5⟩, rfl⟩
      rw [List.length_map] at hm
      have hp : 0 < ws.length := by omega
      have hok : ∀ o ∈ ws.map (aroundM tb), 0 < o.length ∧ inB tb o := fun o ho => by
        obtain ⟨x, hx, rfl⟩ := List.mem_map.mp ho
        have hd := h2 x hx
        refine ⟨?_, fun y hy => ?_⟩
        · refine List.length_pos_of_mem (a := x) (mem_around.mpr ⟨x.toNat, ?_, ?_, ?_, ?_⟩)
          · have := hd.b; omega
          · have := hd.b; omega
          · rw [show ((x.toNat : Nat) : Int) = x by have := hd.b; omega]; exact hd.self
          · rw [show ((x.toNat : Nat) : Int) = x by have := hd.b; omega]; exact hd.self
        · obtain ⟨u, h6, h7, _, _⟩ := mem_around.mp hy
          omega
      refine b_cons (s_set 8 (EL.toE (el_lc (lc_LF (f := fun x => x) (g := fun x => !touchM tb x (ws.map (aroundM tb))) (own := [("knot", 9)]) (e_var 2) 9 (fun s0 H C cl fp j x hx => t_not (t_val (e_call C_law_touches (hr.mono (by decide)) (tb, x, ws.map (aroundM tb)) (ea_cons (e_var 0) (ea_cons (e_var 9) (ea_cons (e_var 2) ea_nil))) (show Sqr tb ∧ (0 < x.length ∧ inB tb x) ∧ ∀ o ∈ ws.map (aroundM tb), 0 < o.length ∧ inB tb o from ⟨T.sq, hok x (List.mem_of_getElem? hx), hok⟩)))) (fun s0 H C cl fp j x hx hd => e_var 9) (blkOk_by (N := ["reach", "many", "waiting", "k", "mates", "j", "listed", "turn", "free", "knot"]) (sc := defScope s_law_knots) (by decide +kernel)) (by rw [List.length_map]; omega) (fun _ _ _ _ _ => pg_name sc_law_knots.nd rfl (by first | exact Or.inl rfl | exact Or.inr rfl))) rfl sc_law_knots.nd)) ?_ sc_law_knots.nd)
      have ef : ((ws.map (aroundM tb)).filter (fun x => !touchM tb x (ws.map (aroundM tb)))).map (fun x => x) = (ws.filter fun h => !blockedM tb ws h).map (aroundM tb) := by
        rw [List.map_id', List.filter_map]
        congr 1
        apply List.filter_congr
        intro o ho
        show (!touchM tb (aroundM tb o) (ws.map (aroundM tb))) = _
        rw [touch_eq (h2 o ho) h2]
      rw [ef]
      obtain ⟨rest, hrest⟩ := next_free T h2 hp
      rw [hrest, List.map_cons]
      have hnm := nextHM_mem (tb := tb) hp
      have hnh := h2 _ hnm
      have e0 : ix (aroundM tb (nextHM tb ws) :: rest.map (aroundM tb)) 0 = aroundM tb (nextHM tb ws) := ix_getElem (by omega) rfl
      have hfo := filter_one h3 hnm
      refine b_cons (s_app 6 rfl (TL.E.is (e_ixL (e_var 8) e_int (atI_ix (by simp only [List.length_cons]; omega) (by simp only [List.length_cons]; omega))) e0) (by omega) ?_)
      refine b_cons (s_set 2 (EL.toE (el_lc (lc_LF (f := fun x => x) (g := fun x => !decide (x = aroundM tb (nextHM tb ws))) (own := [("knot", 9)]) (e_var 2) 9 (fun s0 H C cl fp j x hx => by rw [← eqv_row]; exact t_cv (e_var 9) (TL.E.is (e_ixL (e_var 8) e_int (atI_ix (by simp only [List.length_cons]; omega) (by simp only [List.length_cons]; omega))) e0) (cv_neD hr (sh_row _) (sh_row _) (fun _ _ r => dp_row r) (fun _ _ r => dp_row r))) (fun s0 H C cl fp j x hx hd => e_var 9) (blkOk_by (N := ["reach", "many", "waiting", "k", "mates", "j", "listed", "turn", "free", "knot"]) (sc := defScope s_law_knots) (by decide +kernel)) (by rw [List.length_map]; omega) (fun _ _ _ _ _ => pg_name sc_law_knots.nd rfl (by first | exact Or.inl rfl | exact Or.inr rfl))) rfl sc_law_knots.nd)) ?_ sc_law_knots.nd)
      have ew : ((ws.map (aroundM tb)).filter (fun x => !decide (x = aroundM tb (nextHM tb ws)))).map (fun x => x) = (ws.filter fun h => !decide (h = nextHM tb ws)).map (aroundM tb) := by
        rw [List.map_id', List.filter_map]
        congr 1
        apply List.filter_congr
        intro o ho
        show (!decide (aroundM tb o = aroundM tb (nextHM tb ws))) = _
        congr 1
        exact decide_eq_decide.mpr (hd_inj (h2 o ho) hnh)
      rw [ew]
      refine B.weak (b_nil ⟨_, _, ⟨by omega, fun o ho => h2 o (List.mem_filter.mp ho).1, h3.filter _, ?_, by rw [List.length_append, List.length_singleton]; omega⟩, rfl⟩) (.same (.same (.same (.un (.un (.un (.same (.un (.un (.un .nil))))))))))
      rw [← h4, List.append_assoc]
      congr 1
      have e1 : klM tb ws.length ws = aroundM tb (nextHM tb ws) :: klM tb (ws.length - 1) (ws.filter fun h => !decide (h = nextHM tb ws)) := by
        obtain ⟨n, hn⟩ : ∃ n, ws.length = n + 1 := ⟨ws.length - 1, by omega⟩
        rw [hn]
        show (if ws.isEmpty = true then [] else _) = _
        rw [if_neg (by cases ws with | nil => cases hn | cons x xs => simp)]
        rfl
      rw [e1]
      show _ :: _ = _ :: _
      rw [klM_fuel tb _ (ws.length - 1) _ (Nat.le_refl _) (by omega)]
      rfl
    · rintro _ ⟨ws, ls, ⟨h1, h2, h3, h4, h5⟩, rfl⟩
      rw [List.length_map, Int.toNat_natCast] at h1
      have hw : ws = [] := List.eq_nil_of_length_eq_zero (by omega)
      subst hw
      refine b_freeze 6 rfl ?_
      refine b_cons (s_ret (e_var 6) (fun M v r => ret_is r ?_))
      rw [← h4]
      show ls ++ [] = ls
      simp
end

open Classical in
noncomputable def lineP (kinds : List (List Int)) (ts : List Int) : List Bool := (List.range kinds.length).map fun b : Nat => decide ((b : Int) ∈ ts)
noncomputable def midP (kinds : List (List Int)) (m k : Nat) : List (List Bool) := (List.range kinds.length).map fun a => if a < k then rowP kinds (m + 1) a else rowP kinds m a
theorem lineP_set {kinds : List (List Int)} {ts : List Int} {t : Int} (h0 : 0 ≤ t) (h1 : t < kinds.length) : (lineP kinds ts).set t.toNat true = lineP kinds (ts ++ [t]) := by
  classical
  unfold lineP
  have e : (true : Bool) = (fun b : Nat => decide ((b : Int) ∈ ts ++ [t])) t.toNat := by
    symm; exact decide_eq_true (by rw [show ((t.toNat : Nat) : Int) = t by omega]; simp)
  rw [e]
  refine set_range (n := kinds.length) (k := t.toNat) (f := fun b : Nat => decide ((b : Int) ∈ ts)) (g := fun b : Nat => decide ((b : Int) ∈ ts ++ [t])) (by omega) fun i hi hne => ?_
  congr 1
  apply propext
  rw [List.mem_append, List.mem_singleton]
  exact ⟨fun h => h.elim id fun z => absurd z (by omega), .inl⟩
theorem lineP_neg {kinds : List (List Int)} {ts : List Int} {t : Int} (h0 : t < 0) : lineP kinds (ts ++ [t]) = lineP kinds ts := by
  classical
  unfold lineP
  apply List.map_congr_left
  intro b _
  congr 1
  apply propext
  rw [List.mem_append, List.mem_singleton]
  exact ⟨fun h => h.elim id fun z => absurd z (by omega), .inl⟩
theorem lineP_row (kinds : List (List Int)) (k : Nat) : lineP kinds (ix kinds (k : Int)) = rowP kinds 0 k := by
  classical
  unfold lineP rowP
  apply List.map_congr_left
  intro b _
  congr 1
  exact propext (Pth.zero (E := edge kinds) (a := k) (b := b)).symm
theorem midP_zero (kinds : List (List Int)) (m : Nat) : midP kinds m 0 = tabP kinds m := by
  unfold midP tabP
  apply List.map_congr_left
  intro a _
  rw [if_neg (Nat.not_lt_zero _)]
theorem midP_all (kinds : List (List Int)) (m : Nat) : midP kinds m kinds.length = tabP kinds (m + 1) := by
  unfold midP tabP
  apply List.map_congr_left
  intro a ha
  rw [if_pos (List.mem_range.mp ha)]
theorem rowP_self (kinds : List (List Int)) (m : Nat) : rowP kinds (m + 1) m = rowP kinds m m := by
  classical
  unfold rowP
  apply List.map_congr_left
  intro b _
  congr 1
  exact propext Pth.self
theorem midP_same {kinds : List (List Int)} {m k : Nat} (hk : k < kinds.length) (h : rowP kinds (m + 1) k = rowP kinds m k) : midP kinds m (k + 1) = midP kinds m k := by
  unfold midP
  apply List.map_congr_left
  intro a _
  by_cases z : a < k
  · rw [if_pos z, if_pos (by omega)]
  · by_cases y : a = k
    · subst y; rw [if_pos (by omega), if_neg (by omega), h]
    · rw [if_neg z, if_neg (by omega)]
theorem midP_set {kinds : List (List Int)} {m k : Nat} (hk : k < kinds.length) : (midP kinds m k).set k (rowP kinds (m + 1) k) = midP kinds m (k + 1) := by
  unfold midP
  have e : rowP kinds (m + 1) k = (fun a => if a < k + 1 then rowP kinds (m + 1) a else rowP kinds m a) k := by dsimp only; rw [if_pos (by omega)]
  rw [e]
  refine set_range (n := kinds.length) (k := k) (f := fun a => if a < k then rowP kinds (m + 1) a else rowP kinds m a) (g := fun a => if a < k + 1 then rowP kinds (m + 1) a else rowP kinds m a) hk fun i hi hne => ?_
  by_cases z : i < k
  · rw [if_pos z, if_pos (by omega)]
  · rw [if_neg z, if_neg (by omega)]
theorem midP_ix {kinds : List (List Int)} {m k a : Nat} (ha : a < kinds.length) : ix (midP kinds m k) (a : Int) = if a < k then rowP kinds (m + 1) a else rowP kinds m a := by
  unfold midP; rw [ix_range ha]
theorem midP_m {kinds : List (List Int)} {m k : Nat} (hm : m < kinds.length) : ix (midP kinds m k) (m : Int) = rowP kinds m m := by
  rw [midP_ix hm]; split
  · exact rowP_self kinds m
  · rfl
open Classical in
theorem rowP_ix {kinds : List (List Int)} {m a b : Nat} (hb : b < kinds.length) : ix (rowP kinds m a) (b : Int) = decide (Pth (edge kinds) m a b) := by
  unfold rowP; rw [ix_range hb]
theorem rowP_or {kinds : List (List Int)} {m k : Nat} (h : Pth (edge kinds) m k m) : ((List.range kinds.length).map fun j : Nat => ix (rowP kinds m k) (j : Int) || ix (rowP kinds m m) (j : Int)) = rowP kinds (m + 1) k := by
  classical
  unfold rowP
  apply List.map_congr_left
  intro j hj
  rw [ix_range (List.mem_range.mp hj), ix_range (List.mem_range.mp hj), ← Bool.decide_or]
  congr 1
  apply propext
  rw [Pth.succ]
  exact ⟨fun z => z.elim .inl fun y => .inr ⟨h, y⟩, fun z => z.elim .inl fun y => .inr y.2⟩
theorem rowP_no {kinds : List (List Int)} {m k : Nat} (h : ¬ Pth (edge kinds) m k m) : rowP kinds (m + 1) k = rowP kinds m k := by
  classical
  unfold rowP
  apply List.map_congr_left
  intro j _
  congr 1
  apply propext
  rw [Pth.succ]
  exact ⟨fun z => z.elim id fun y => absurd y.1 h, .inl⟩
noncomputable def spRT (K : Fg) : Sp := spG K (fun i : List (List Int) => [.vl (tTup (tTup tI)) i]) (fun i => Good i 1000 1000) (tLst (tLst tB)) (fun i => reachTab i)
section
variable {P : Program} {w : World} {K : Fg} {mg : Str → Option Value} {base : Heap}
theorem sc_law_reach : FnScope ["kinds", "many", "table", "k", "line", "target", "m", "j"] ["kinds"] (defScope s_law_reach) := ⟨rfl, rfl, rfl, by decide +kernel, rfl, by decide +kernel, by decide +kernel⟩
theorem ok_law_reach {f : Addr} {fd : FuncData} (F : Fun K "_law_reach" "_law_reach" s_law_reach f fd) (b : Bi mg) : FnOk P w K mg base CX0 1 f fd ["kinds"] (spRT K) := by
  classical
  refine fn_ok F sc_law_reach 7 rfl (fun _ => rfl) (fun cdv A outer s H E hr kinds hg => ?_)
  have hpos := hg.pos
  have hlen := hg.len
  refine b_cons (s_set 1 (e_lenT b.len (e_var 0)) ?_ sc_law_reach.nd)
  refine b_cons (s_own 2 (el_lst (s := tLst tB) eh_nil) ?_ sc_law_reach.nd)
  refine b_cons (s_forR 3 (fun k G' => G' = [.vl (tTup (tTup tI)) kinds, .vl tI (kinds.length : Int), .ow (tLst tB) ((List.range k).map (rowP kinds 0)), .un, .un, .un, .un, .un]) _ b.range (e_var 1) (by omega) (Sub.refl _) rfl ?_ ?_ sc_law_reach.nd rfl)
  · rintro k _ hk rfl
    have hrow := hg.row _ (ix_mem (xs := kinds) (i := (k : Int)) (by omega) (by omega))
    refine b_cons (s_own 4 (el_rep (EL.toE (el_lst (eh_cons e_bl eh_nil))) (e_var 1) (by omega) (by simp only [List.length_cons, List.length_nil]; omega)) ?_ sc_law_reach.nd)
    have el : (List.replicate (kinds.length : Int).toNat [false]).flatten = lineP kinds [] := by
      unfold lineP
      rw [Int.toNat_natCast]
      apply List.ext_getElem?
      intro i
      have : ∀ n : Nat, (List.replicate n [false]).flatten = List.replicate n false := fun n => by
        induction n with
        | zero => rfl
        | succ n ih => rw [List.replicate_succ, List.flatten_cons, ih]; rfl
      rw [this, List.getElem?_replicate, List.getElem?_map]
      by_cases z : i < kinds.length
      · rw [if_pos z, List.getElem?_range z]; simp
      · rw [if_neg z, List.getElem?_eq_none (by simp; omega)]; rfl
    rw [el]
    refine b_cons (s_forT 5 (fun j G' => G' = [.vl (tTup (tTup tI)) kinds, .vl tI (kinds.length : Int), .ow (tLst tB) ((List.range k).map (rowP kinds 0)), .vl tI (k : Int), .ow tB (lineP kinds ((ix kinds (k : Int)).take j)), .un, .un, .un]) _ (e_ixT (e_var 0) (e_var 3) (atI_ix (by omega) (by omega))) (Sub.refl _) rfl ?_ ?_ sc_law_reach.nd rfl)
    · rintro j t _ ht rfl
      rw [take_snoc ht]
      have htr := hrow.2 t (List.mem_of_getElem? ht)
      refine b_cut (fun G' => ∃ a, G' = [.vl (tTup (tTup tI)) kinds, .vl tI (kinds.length : Int), .ow (tLst tB) ((List.range k).map (rowP kinds 0)), .vl tI (k : Int), .ow tB (lineP kinds ((ix kinds (k : Int)).take j ++ [t])), a, .un, .un]) (s_if (t_cv (e_var 5) e_int cv_ge) (fun h => ?_) (fun h => ?_)) ?_
      · have h' : 0 ≤ t := of_decide_eq_true h
        rw [← lineP_set h' htr.2]
        refine b_cons (s_seti 4 (m := t.toNat) rfl e_bl (e_var 5) (ixNp h' (by unfold lineP; rw [List.length_map, List.length_range]; exact htr.2)) ?_)
        exact b_nil ⟨_, rfl⟩
      · have h' : ¬ 0 ≤ t := of_decide_eq_false h
        rw [lineP_neg (by omega)]
        exact b_nil ⟨_, rfl⟩
      rintro _ ⟨a, rfl⟩
      exact B.weak (b_nil rfl) (.same (.same (.same (.same (.same (.un (.un (.un .nil))))))))
    · rintro _ rfl
      rw [List.take_length, lineP_row]
      refine b_freeze 4 rfl ?_
      refine b_cons (s_app 2 rfl (e_var 4) (by simp; omega) ?_)
      refine B.weak (b_nil rfl) ?_
      rw [List.range_succ, List.map_append]
      exact .same (.same (.same (.un (.un (.un (.un (.un .nil)))))))
  · rintro _ rfl
    rw [Int.toNat_natCast]
    refine b_cons (s_forR 6 (fun m G' => G' = [.vl (tTup (tTup tI)) kinds, .vl tI (kinds.length : Int), .ow (tLst tB) (tabP kinds m), .un, .un, .un, .un, .un]) _ b.range (e_var 1) (by omega) (Sub.refl _) rfl ?_ ?_ sc_law_reach.nd rfl)
    · rintro m _ hm rfl
      refine b_cons (s_forR 3 (fun k G' => G' = [.vl (tTup (tTup tI)) kinds, .vl tI (kinds.length : Int), .ow (tLst tB) (midP kinds m k), .un, .un, .un, .vl tI (m : Int), .un]) _ b.range (e_var 1) (by omega) (Sub.refl _) (by rw [midP_zero]; rfl) ?_ ?_ sc_law_reach.nd rfl)
      · rintro k _ hk rfl
        have hk' : k < kinds.length := by omega
        have hm' : m < kinds.length := by omega
        have hml : (midP kinds m k).length = kinds.length := by unfold midP; simp
        have hkk : ix (midP kinds m k) (k : Int) = rowP kinds m k := by rw [midP_ix hk', if_neg (Nat.lt_irrefl _)]
        refine b_cut (fun G' => G' = [.vl (tTup (tTup tI)) kinds, .vl tI (kinds.length : Int), .ow (tLst tB) (midP kinds m (k + 1)), .vl tI (k : Int), .un, .un, .vl tI (m : Int), .un]) (s_if (t_read 2 rfl (t_val (e_ixL (e_ixL (e_var 2) (e_var 3) (atI_ix (by omega) (by omega))) (e_var 6) (atI_ix (by omega) (by rw [hkk, rowP_len]; omega))))) (fun h => ?_) (fun h => ?_)) ?_
        · rw [hkk, rowP_ix hm'] at h
          have h := of_decide_eq_true h
          rw [← midP_set hk', ← rowP_or h]
          refine b_cons (s_seti 2 (m := k) rfl (EL.toE (el_read 2 rfl imm_B (el_lc (lc_R (f := fun j : Nat => ix (rowP kinds m k) (j : Int) || ix (rowP kinds m m) (j : Int)) (own := [("j", 7)]) b.range (e_var 1) (by omega) 7 (fun s0 H C cl fp j hj => e_or (e_ixL (TL.E.is (e_ixL (e_var 2) (e_var 3) (atI_ix (by omega) (by omega))) hkk) (e_var 7) (atI_ix (by omega) (by rw [rowP_len]; omega))) (fun h => e_one (e_ixL (TL.E.is (e_ixL (e_var 2) (e_var 6) (atI_ix (by omega) (by omega))) (midP_m hm')) (e_var 7) (atI_ix (by omega) (by rw [rowP_len]; omega))))) (blkOk_by (N := ["kinds", "many", "table", "k", "line", "target", "m", "j"]) (sc := defScope s_law_reach) (by decide +kernel)) (fun _ _ _ _ _ => pg_name sc_law_reach.nd rfl (by first | exact Or.inl rfl | exact Or.inr rfl))) rfl sc_law_reach.nd))) (e_var 3) (by rw [ixNp (by omega) (by omega), Int.toNat_natCast]) ?_)
          exact b_nil rfl
        · rw [hkk, rowP_ix hm'] at h
          have h := of_decide_eq_false h
          rw [midP_same hk' (rowP_no h)]
          exact b_nil rfl
        rintro _ rfl
        exact B.weak (b_nil rfl) (.same (.same (.same (.un (.un (.un (.same (.un .nil))))))))
      · rintro _ rfl
        rw [Int.toNat_natCast, midP_all]
        exact B.weak (b_nil rfl) (.same (.same (.same (.un (.un (.un (.un (.un .nil))))))))
    · rintro _ rfl
      rw [Int.toNat_natCast]
      refine b_freeze 2 rfl ?_
      exact b_cons (s_ret (e_var 2) (fun M v r => r))
end

def sp_law_same_rowT (K : Fg) : Sp := spG K (fun i : List Int × List Int => [.vl (tTup tI) i.1, .vl (tTup tI) i.2]) (fun i => i.1 = i.2 ∧ i.2.length ≤ 1000) tB (fun i => true)
def sp_law_same_rowL (K : Fg) : Sp := spG K (fun i : List Int × List Int => [.vl (tTup tI) i.1, .vl (tLst tI) i.2]) (fun i => i.1 = i.2 ∧ i.2.length ≤ 1000) tB (fun i => true)
section
variable {P : Program} {w : World} {K : Fg} {mg : Str → Option Value} {base : Heap}
theorem sc_law_same_row : FnScope ["told", "due", "k"] ["told", "due"] (defScope s_law_same_row) := ⟨rfl, rfl, rfl, by decide +kernel, rfl, by decide +kernel, by decide +kernel⟩
theorem ok_law_same_rowT {f : Addr} {fd : FuncData} (F : Fun K "_law_same_row" "_law_same_row" s_law_same_row f fd) (b : Bi mg) (C_law_whole : Fn P w K mg base CX0 1 "_law_whole" ["value"] (spWhole K)) : FnOk P w K mg base CX0 2 f fd ["told", "due"] (sp_law_same_rowT K) := by
  refine fn_ok F sc_law_same_row 1 rfl (fun _ => rfl) (fun cdv A outer s H E hr ⟨value, due⟩ hp => ?_)
  dsimp only at hp ⊢
  obtain ⟨rfl, hz⟩ := hp
  refine b_cons (s_if (TW.toT (w_or (t_not (t_val (e_isD (dd := dRow value) b.isinstance (e_var 0) (e_Ttuple b.tuple) (fun _ _ r => dp_row r) (kbT _)))) (fun h => (w_or1 (t_cv (e_lenT b.len (e_var 0)) (e_lenT b.len (e_var 1)) cv_neI))))) (fun h1 => ?_) (fun h1 => ?_))
  · have h1p := h1; simp [isTD, dRow] at h1p
  · refine b_nil ?_
    refine b_cons (s_forR 2 (fun m G' => G' = [.vl (tTup tI) value, .vl (tTup tI) value, .un]) _ b.range (e_lenT b.len (e_var 1)) (by omega) (Sub.refl _) rfl ?_ ?_ sc_law_same_row.nd rfl)
    · rintro m _ hm rfl
      refine b_cons (s_if (TW.toT (w_or (t_not (t_val (e_call C_law_whole (hr.mono (by decide)) _ (ea_cons (TL.E.as (t := tD) (y := .int _) (e_ixT (e_var 0) (e_var 2) (atI_ix (by omega) (by omega))) (fun _ _ r => dp_I r)) ea_nil) trivial))) (fun h => (w_or1 (t_cv (e_ixT (e_var 0) (e_var 2) (atI_ix (by omega) (by omega))) (e_ixT (e_var 1) (e_var 2) (atI_ix (by omega) (by omega))) cv_neI))))) (fun h2 => ?_) (fun h2 => ?_))
      · have h2p := h2; simp [wholeD] at h2p
      · exact b_nil (B.weak (b_nil rfl) (.same (.same (.un .nil))))
    · rintro _ rfl
      exact b_cons (s_ret e_bl (fun M v r => r))
theorem ok_law_same_rowL {f : Addr} {fd : FuncData} (F : Fun K "_law_same_row" "_law_same_row" s_law_same_row f fd) (b : Bi mg) (C_law_whole : Fn P w K mg base CX0 1 "_law_whole" ["value"] (spWhole K)) : FnOk P w K mg base CX0 2 f fd ["told", "due"] (sp_law_same_rowL K) := by
  refine fn_ok F sc_law_same_row 1 rfl (fun _ => rfl) (fun cdv A outer s H E hr ⟨value, due⟩ hp => ?_)
  dsimp only at hp ⊢
  obtain ⟨rfl, hz⟩ := hp
  refine b_cons (s_if (TW.toT (w_or (t_not (t_val (e_isD (dd := dRow value) b.isinstance (e_var 0) (e_Ttuple b.tuple) (fun _ _ r => dp_row r) (kbT _)))) (fun h => (w_or1 (t_cv (e_lenT b.len (e_var 0)) (e_lenL b.len (e_var 1)) cv_neI))))) (fun h1 => ?_) (fun h1 => ?_))
  · have h1p := h1; simp [isTD, dRow] at h1p
  · refine b_nil ?_
    refine b_cons (s_forR 2 (fun m G' => G' = [.vl (tTup tI) value, .vl (tLst tI) value, .un]) _ b.range (e_lenL b.len (e_var 1)) (by omega) (Sub.refl _) rfl ?_ ?_ sc_law_same_row.nd rfl)
    · rintro m _ hm rfl
      refine b_cons (s_if (TW.toT (w_or (t_not (t_val (e_call C_law_whole (hr.mono (by decide)) _ (ea_cons (TL.E.as (t := tD) (y := .int _) (e_ixT (e_var 0) (e_var 2) (atI_ix (by omega) (by omega))) (fun _ _ r => dp_I r)) ea_nil) trivial))) (fun h => (w_or1 (t_cv (e_ixT (e_var 0) (e_var 2) (atI_ix (by omega) (by omega))) (e_ixL (e_var 1) (e_var 2) (atI_ix (by omega) (by omega))) cv_neI))))) (fun h2 => ?_) (fun h2 => ?_))
      · have h2p := h2; simp [wholeD] at h2p
      · exact b_nil (B.weak (b_nil rfl) (.same (.same (.un .nil))))
    · rintro _ rfl
      exact b_cons (s_ret e_bl (fun M v r => r))
end

def sp_law_same_rowsT (K : Fg) : Sp := spG K (fun i : List (List Int) × List (List Int) => [.vl (tTup (tTup tI)) i.1, .vl (tTup (tTup tI)) i.2]) (fun i => i.1 = i.2 ∧ i.2.length ≤ 1000 ∧ ∀ r ∈ i.2, r.length ≤ 1000) tB (fun i => true)
def sp_law_same_rowsL (K : Fg) : Sp := spG K (fun i : List (List Int) × List (List Int) => [.vl (tTup (tTup tI)) i.1, .vl (tLst (tTup tI)) i.2]) (fun i => i.1 = i.2 ∧ i.2.length ≤ 1000 ∧ ∀ r ∈ i.2, r.length ≤ 1000) tB (fun i => true)
section
variable {P : Program} {w : World} {K : Fg} {mg : Str → Option Value} {base : Heap}
theorem sc_law_same_rows : FnScope ["told", "due", "k"] ["told", "due"] (defScope s_law_same_rows) := ⟨rfl, rfl, rfl, by decide +kernel, rfl, by decide +kernel, by decide +kernel⟩
theorem ok_law_same_rowsT {f : Addr} {fd : FuncData} (F : Fun K "_law_same_rows" "_law_same_rows" s_law_same_rows f fd) (b : Bi mg) (C_law_same_row : Fn P w K mg base CX0 2 "_law_same_row" ["told", "due"] (sp_law_same_rowT K)) : FnOk P w K mg base CX0 3 f fd ["told", "due"] (sp_law_same_rowsT K) := by
  refine fn_ok F sc_law_same_rows 1 rfl (fun _ => rfl) (fun cdv A outer s H E hr ⟨told, due⟩ hp => ?_)
  dsimp only at hp ⊢
  obtain ⟨rfl, hz, hrw⟩ := hp
  refine b_cons (s_if (TW.toT (w_or (t_not (t_val (e_isD (dd := dTab told) b.isinstance (e_var 0) (e_Ttuple b.tuple) (fun _ _ r => dp_tab r) (kbT _)))) (fun h => (w_or1 (t_cv (e_lenT b.len (e_var 0)) (e_lenT b.len (e_var 1)) cv_neI))))) (fun h1 => ?_) (fun h1 => ?_))
  · have h1p := h1; simp [isTD, dTab] at h1p
  · refine b_nil ?_
    refine b_cons (s_forR 2 (fun m G' => G' = [.vl (tTup (tTup tI)) told, .vl (tTup (tTup tI)) told, .un]) _ b.range (e_lenT b.len (e_var 1)) (by omega) (Sub.refl _) rfl ?_ ?_ sc_law_same_rows.nd rfl)
    · rintro m _ hm rfl
      have hrow := hrw _ (ix_mem (xs := told) (i := (m : Int)) (by omega) (by omega))
      refine b_cons (s_if (t_not (t_val (e_call C_law_same_row (hr.mono (by decide)) (ix told (m : Int), ix told (m : Int)) (ea_cons (e_ixT (e_var 0) (e_var 2) (atI_ix (by omega) (by omega))) (ea_cons (e_ixT (e_var 1) (e_var 2) (atI_ix (by omega) (by omega))) ea_nil)) (by refine ⟨rfl, ?_⟩; dsimp only; omega)))) (fun h2 => ?_) (fun h2 => ?_))
      · cases h2
      · exact b_nil (B.weak (b_nil rfl) (.same (.same (.un .nil))))
    · rintro _ rfl
      exact b_cons (s_ret e_bl (fun M v r => r))
theorem ok_law_same_rowsL {f : Addr} {fd : FuncData} (F : Fun K "_law_same_rows" "_law_same_rows" s_law_same_rows f fd) (b : Bi mg) (C_law_same_row : Fn P w K mg base CX0 2 "_law_same_row" ["told", "due"] (sp_law_same_rowT K)) : FnOk P w K mg base CX0 3 f fd ["told", "due"] (sp_law_same_rowsL K) := by
  refine fn_ok F sc_law_same_rows 1 rfl (fun _ => rfl) (fun cdv A outer s H E hr ⟨told, due⟩ hp => ?_)
  dsimp only at hp ⊢
  obtain ⟨rfl, hz, hrw⟩ := hp
  refine b_cons (s_if (TW.toT (w_or (t_not (t_val (e_isD (dd := dTab told) b.isinstance (e_var 0) (e_Ttuple b.tuple) (fun _ _ r => dp_tab r) (kbT _)))) (fun h => (w_or1 (t_cv (e_lenT b.len (e_var 0)) (e_lenL b.len (e_var 1)) cv_neI))))) (fun h1 => ?_) (fun h1 => ?_))
  · have h1p := h1; simp [isTD, dTab] at h1p
  · refine b_nil ?_
    refine b_cons (s_forR 2 (fun m G' => G' = [.vl (tTup (tTup tI)) told, .vl (tLst (tTup tI)) told, .un]) _ b.range (e_lenL b.len (e_var 1)) (by omega) (Sub.refl _) rfl ?_ ?_ sc_law_same_rows.nd rfl)
    · rintro m _ hm rfl
      have hrow := hrw _ (ix_mem (xs := told) (i := (m : Int)) (by omega) (by omega))
      refine b_cons (s_if (t_not (t_val (e_call C_law_same_row (hr.mono (by decide)) (ix told (m : Int), ix told (m : Int)) (ea_cons (e_ixT (e_var 0) (e_var 2) (atI_ix (by omega) (by omega))) (ea_cons (e_ixL (e_var 1) (e_var 2) (atI_ix (by omega) (by omega))) ea_nil)) (by refine ⟨rfl, ?_⟩; dsimp only; omega)))) (fun h2 => ?_) (fun h2 => ?_))
      · cases h2
      · exact b_nil (B.weak (b_nil rfl) (.same (.same (.un .nil))))
    · rintro _ rfl
      exact b_cons (s_ret e_bl (fun M v r => r))
end

def row3Sizes : List Int := (List.replicate 10 [40]).flatten ++ (List.replicate 4 [81]).flatten
def splaw (K : Fg) : Sp := spG K (fun i : List Int => [.vl (tSq tI) i]) (fun i => i.length ≤ 63) tB (fun _ => true)
theorem ix3 {α : Type} [Inhabited α] {Q : α → Prop} {a b c : α} (ha : Q a) (hb : Q b) (hc : Q c) (j : Int) (h0 : 0 ≤ j) (h1 : j < 3) : Q (ix [a, b, c] j) := by
  have : j = 0 ∨ j = 1 ∨ j = 2 := by omega
  rcases this with rfl | rfl | rfl
  · exact ha
  · exact hb
  · exact hc
theorem ixMap {α β : Type} [Inhabited α] [Inhabited β] (f : α → β) {xs : List α} {j : Int} (h0 : 0 ≤ j) (h1 : j < xs.length) : ix (xs.map f) j = f (ix xs j) := by
  apply ix_getElem h0
  rw [List.getElem?_map, ix_pos h0 h1]; rfl
theorem flat_len {xs : List (List Int)} {n : Nat} (h : ∀ x ∈ xs, x.length ≤ n) : xs.flatten.length ≤ xs.length * n := by
  induction xs with
  | nil => simp
  | cons x xs ih =>
    have := ih fun y hy => h y (List.mem_cons_of_mem _ hy)
    have := h x (List.mem_cons_self ..)
    rw [List.flatten_cons, List.length_append, List.length_cons, Nat.succ_mul]
    omega
theorem emod_in {n : Int} (h : 0 < n) (xs : List Int) : inR n (xs.map fun j => j % n) := fun t ht => by
  obtain ⟨d, _, rfl⟩ := List.mem_map.mp ht
  exact ⟨Int.emod_nonneg _ (by omega), Int.emod_lt_of_pos _ h⟩
section
variable {P : Program} {w : World} {K : Fg} {mg : Str → Option Value} {base : Heap}
theorem sc_law : FnScope ["script", "tables", "row", "handed", "kind", "books", "dues", "kinds", "side", "held", "knot", "due", "k", "many", "spots", "j"] ["script"] (defScope slaw) := ⟨rfl, rfl, rfl, by decide +kernel, rfl, by decide +kernel, by decide +kernel⟩
theorem oklaw {C : Addr} (hC : Cls K C) (hna : NoAttr K C "kinds") (hI : C8.InsC K C) {f : Addr} {fd : FuncData} (F : Fun K "law" "law" slaw f fd) (b : Bi mg)
    (C_law_digits : Fn P w K mg base CX0 1 "_law_digits" ["cell", "sizes"] (sp_law_digits K)) (C_law_cell : Fn P w K mg base CX0 1 "_law_cell" ["script", "k"] (sp_law_cell K))
    (C_law_drawn : Fn P w K mg base CX0 3 "_law_drawn" ["script"] (sp_law_drawn K)) (CBook : Mkr P w K mg base 4 "Book" C ["self", "kinds"] (spBook__init__ K C)) (CAdd : AddC P w K mg base 6 C ["self", "other"] (spBook__add__ K C))
    (C_law_sum : Fn P w K mg base CX0 1 "_law_sum" ["left", "right"] (sp_law_sum K)) (C_law_reach : Fn P w K mg base CX0 1 "_law_reach" ["kinds"] (spRT K)) (C_law_knots : Fn P w K mg base CX0 2 "_law_knots" ["reach"] (sp_law_knots K))
    (Cknots : Fn P w K mg base CX0 4 "knots" ["book"] (spknots K C)) (Cpassing_kinds : Fn P w K mg base CX0 5 "passing_kinds" ["book"] (sppassing_kinds K C))
    (C_law_same_rowL : Fn P w K mg base CX0 2 "_law_same_row" ["told", "due"] (sp_law_same_rowL K)) (C_law_same_rowsT : Fn P w K mg base CX0 3 "_law_same_rows" ["told", "due"] (sp_law_same_rowsT K)) (C_law_same_rowsL : Fn P w K mg base CX0 3 "_law_same_rows" ["told", "due"] (sp_law_same_rowsL K))
    (C_law_picked : Fn P w K mg base CX0 1 "_law_picked" ["many", "row"] (sp_law_picked K)) (C_law_singles_are : Fn P w K mg base CX0 6 "_law_singles_are" ["book", "kinds", "due", "picks", "spots"] (sp_law_singles_are K C)) : FnOk P w K mg base CX0 8 f fd ["script"] (splaw K) := by
  refine fn_ok F sc_law 15 rfl (fun _ => rfl) (fun cdv A outer s H E hr script hp => ?_)
  have hmC : mg "Book" = some (.ref C) := by obtain ⟨_, _, _, _, h, _⟩ := CBook.ex; exact h
  refine b_cons (s_ownX 1 (elx_call C_law_drawn (hr.mono (by decide)) (EA.toX (ea_cons (e_var 0) ea_nil)) (fun ss hss => ⟨script, hss.symm, hp, fun y hy => hy⟩)) ?_ sc_law.nd)
  rintro _ ⟨a, c, rfl, ha, hc⟩
  refine b_cons (s_set 2 (e_call C_law_digits (hr.mono (by decide)) (cellM script 3, row3Sizes) (ea_cons (e_call C_law_cell (hr.mono (by decide)) (script, 3) (ea_cons (e_var 0) (ea_cons e_int ea_nil)) (show script.length ≤ 63 ∧ (0:Int) ≤ 3 ∧ (3:Int) < 100 from ⟨hp, by decide, by decide⟩)) (ea_cons (EL.toE (el_cat (EL.toE (el_rep (EL.toE (el_lst (eh_cons e_int eh_nil))) e_int (by decide) (by decide))) (EL.toE (el_rep (EL.toE (el_lst (eh_cons e_int eh_nil))) e_int (by decide) (by decide))) (by decide))) ea_nil)) (show row3Sizes.length ≤ 3000 ∧ ∀ s ∈ row3Sizes, 0 < s ∧ s < 1073741824 from by decide)) ?_ sc_law.nd)
  dsimp only
  have hrl := digits_len (cellM script 3) row3Sizes
  rw [show row3Sizes.length = 14 from by decide] at hrl
  generalize digitsM (cellM script 3) row3Sizes = row at hrl ⊢
  have hal := ha.len
  have hcl := hc.len
  have hap := ha.pos
  have hcp := hc.pos
  have hs := sum_good ha hc (by omega)
  have hfit : ∀ T : List (List Int), Good T 81 20 → (T.length ≤ 81 ∧ ∀ x ∈ T, x.length ≤ 20) := fun T g => ⟨by have := g.len; omega, fun x hx => by have := (g.row x hx).1; omega⟩
  have fa := hfit a (ha.mono (by omega) (by omega))
  have fc := hfit c (hc.mono (by omega) (by omega))
  have hrow : ∀ x ∈ c, x.length ≤ 1000000 := fun x hx => by have := fc.2 x hx; omega
  refine b_cons (s_lc 3 (lc_T (f := fun x : List Int => x) (xs := c) (own := [("kind", 4)]) (TL.E.is (e_ixOw 1 rfl e_int (atI_ix (by simp only [List.length_cons, List.length_nil]; omega) (by simp only [List.length_cons, List.length_nil]; omega))) rfl) 4 (fun s0 H C cl fp m x hx => EL.toE (el_listT b.list (e_var 4))) (blkOk_by (N := ["script", "tables", "row", "handed", "kind", "books", "dues", "kinds", "side", "held", "knot", "due", "k", "many", "spots", "j"]) (sc := defScope slaw) (by decide +kernel)) (by omega) (fun _ _ _ _ _ => pg_name sc_law.nd rfl (by first | exact Or.inl rfl | exact Or.inr rfl))) ?_ rfl sc_law.nd)
  refine b_freeze 3 rfl ?_
  rw [List.map_id']
  refine b_cons (s_own 5 (el_lst (eh_cons (TL.E.as (t := tBook C) (y := a) (e_mk CBook (hr.mono (by decide)) (dTab a, a) (ea_cons (TL.E.as (t := tD) (y := dTab a) (TL.E.is (e_ixOw 1 rfl e_int (atI_ix (by simp only [List.length_cons, List.length_nil]; omega) (by simp only [List.length_cons, List.length_nil]; omega))) (show ix [a, c] 0 = a from rfl)) (fun _ _ r => dp_tab r)) ea_nil) (show (Fit 2 (dTab a) ∧ frz (dTab a) = dTab a) ∧ Good a 1000 1000 from ⟨⟨fit_tab (by omega) (fun x hx => by have := fa.2 x hx; omega), frz_dTab a⟩, ha.mono (by omega) (by omega)⟩)) (fun _ _ r => r)) (eh_cons (TL.E.as (t := tBook C) (y := c) (e_mk CBook (hr.mono (by decide)) (dTabL c, c) (ea_cons (TL.E.as (t := tD) (y := dTabL c) (e_var 3) (fun _ _ r => dp_tabL r)) ea_nil) (show (Fit 2 (dTabL c) ∧ frz (dTabL c) = dTab c) ∧ Good c 1000 1000 from ⟨⟨fit_tabL (by omega) hrow, frz_dTabL c⟩, hc.mono (by omega) (by omega)⟩)) (fun _ _ r => r)) eh_nil))) ?_ sc_law.nd)
  refine b_cons (s_app 5 rfl (e_addOb CAdd (hr.mono (by decide)) (a, c) (TL.E.is (e_ixOw 5 rfl e_int (atI_ix (by simp only [List.length_cons, List.length_nil]; omega) (by simp only [List.length_cons, List.length_nil]; omega))) (show ix [a, c] 0 = a from rfl)) (TL.E.is (e_ixOw 5 rfl e_int (atI_ix (by simp only [List.length_cons, List.length_nil]; omega) (by simp only [List.length_cons, List.length_nil]; omega))) (show ix [a, c] 1 = c from rfl)) rfl (show Good a 100 100 ∧ Good c 100 100 from ⟨ha.mono (by omega) (by omega), hc.mono (by omega) (by omega)⟩)) (by simp only [List.length_cons, List.length_nil]; omega) ?_)
  refine b_cons (s_app 1 rfl (e_call C_law_sum (hr.mono (by decide)) (a, c) (ea_cons (TL.E.is (e_ixOw 1 rfl e_int (atI_ix (by simp only [List.length_cons, List.length_nil]; omega) (by simp only [List.length_cons, List.length_nil]; omega))) (show ix [a, c] 0 = a from rfl)) (ea_cons (TL.E.is (e_ixOw 1 rfl e_int (atI_ix (by simp only [List.length_cons, List.length_nil]; omega) (by simp only [List.length_cons, List.length_nil]; omega))) (show ix [a, c] 1 = c from rfl)) ea_nil)) (show Good a 100 100 ∧ Good c 100 100 from ⟨ha.mono (by omega) (by omega), hc.mono (by omega) (by omega)⟩)) (by simp only [List.length_cons, List.length_nil]; omega) ?_)
  dsimp only
  refine b_freeze 1 rfl ?_
  refine b_freeze 5 rfl ?_
  have hT : ∀ j : Int, 0 ≤ j → j < 3 → Good (ix [a, c, sumM a c] j) 81 20 := ix3 (Q := fun x => Good x 81 20) (ha.mono (by omega) (by omega)) (hc.mono (by omega) (by omega)) (hs.mono (by omega) (by omega))
  have hTm : ∀ x ∈ [a, c, sumM a c], Good x 81 20 := fun x hx => by
    simp only [List.mem_cons, List.not_mem_nil, or_false] at hx
    rcases hx with rfl | rfl | rfl
    · exact ha.mono (by omega) (by omega)
    · exact hc.mono (by omega) (by omega)
    · exact hs.mono (by omega) (by omega)
  have hT1 : ix [a, c, sumM a c] 1 = c := rfl
  show B _ [.vl (tSq tI) script, .vl (tLst (tTup (tTup tI))) [a, c, sumM a c], .vl (tLst tI) row, .vl (tLst (tLst tI)) c, .un, .vl (tLst (tBook C)) [a, c, sumM a c], .un, .un, .un, .un, .un, .un, .un, .un, .un, .un] _ _
  have hTl : ([a, c, sumM a c] : List (List (List Int))).length = 3 := rfl
  generalize [a, c, sumM a c] = T at hT hTm hT1 hTl ⊢
  refine b_cons (s_set 6 (EL.toE (el_lc (lc_L (f := knotsM) (xs := T) (own := [("kinds", 7)]) (e_var 1) 7 (fun s0 H C cl fp m x hx => e_call C_law_knots (hr.mono (by decide)) (reachTab x) (ea_cons (e_call C_law_reach (hr.mono (by decide)) x (ea_cons (e_var 7) ea_nil) ((hTm x (List.mem_of_getElem? hx)).mono (by omega) (by omega))) ea_nil) (reach_trn (hTm x (List.mem_of_getElem? hx)) (by omega))) (blkOk_by (N := ["script", "tables", "row", "handed", "kind", "books", "dues", "kinds", "side", "held", "knot", "due", "k", "many", "spots", "j"]) (sc := defScope slaw) (by decide +kernel)) (by omega) (fun _ _ _ _ _ => pg_name sc_law.nd rfl (by first | exact Or.inl rfl | exact Or.inr rfl))) rfl sc_law.nd)) ?_ sc_law.nd)
  have hD : ∀ j : Int, 0 ≤ j → j < 3 → ix (T.map knotsM) j = knotsM (ix T j) := fun j h0 h1 => ixMap _ h0 (by omega)
  have hDl : (T.map knotsM).length = 3 := by rw [List.length_map, hTl]
  generalize T.map knotsM = D at hD hDl ⊢
  have hkl : ∀ j : Int, 0 ≤ j → j < 3 → (knotsM (ix T j)).length ≤ 81 := fun j h0 h1 => by
    have := knots_len (hT j h0 h1) (by omega)
    have := (hT j h0 h1).len
    omega
  have hki : ∀ j : Int, 0 ≤ j → j < 3 → ∀ r ∈ knotsM (ix T j), r.length ≤ 81 := fun j h0 h1 r hr => by
    have := (knots_in (hT j h0 h1) (by omega) r hr).1
    have := (hT j h0 h1).len
    omega
  -- the knots of each
  refine b_cons (s_forR 8 (fun m G' => G' = [.vl (tSq tI) script, .vl (tLst (tTup (tTup tI))) T, .vl (tLst tI) row, .vl (tLst (tLst tI)) c, .un, .vl (tLst (tBook C)) T, .vl (tLst (tLst (tTup tI))) D, .un, .un, .un, .un, .un, .un, .un, .un, .un]) _ b.range e_int (by decide) (Sub.refl _) rfl ?_ ?_ sc_law.nd rfl)
  · rintro m _ hm rfl
    have h1 := hkl (m : Int) (by omega) (by omega)
    have h2 := hki (m : Int) (by omega) (by omega)
    refine b_cons (s_if (TW.toT (w_or (t_not (t_val (e_isOwn hI b.isinstance (e_ixL (e_var 5) (e_var 8) (atI_ix (by omega) (by omega))) (e_cls hmC)))) (fun _ => w_or1 (t_not (t_val (e_call C_law_same_rowsL (hr.mono (by decide)) (knotsM (ix T (m : Int)), ix D (m : Int)) (ea_cons (e_call Cknots (hr.mono (by decide)) (ix T (m : Int)) (ea_cons (e_ixL (e_var 5) (e_var 8) (atI_ix (by omega) (by omega))) ea_nil) ((hT (m : Int) (by omega) (by omega)).mono (by omega) (by omega))) (ea_cons (e_ixL (e_var 6) (e_var 8) (atI_ix (by omega) (by omega))) ea_nil)) (by dsimp only; rw [hD _ (by omega) (by omega)]; exact ⟨rfl, by omega, fun r hr => by have := h2 r hr; omega⟩))))))) (fun h => by cases h) (fun _ => b_nil ?_))
    exact B.weak (b_nil rfl) (.same (.same (.same (.same (.un (.same (.same (.un (.un (.un (.un (.un (.un (.un (.un (.un .nil))))))))))))))))
  rintro _ rfl
  -- the passing kinds of each
  refine b_cons (s_forR 8 (fun m G' => G' = [.vl (tSq tI) script, .vl (tLst (tTup (tTup tI))) T, .vl (tLst tI) row, .vl (tLst (tLst tI)) c, .un, .vl (tLst (tBook C)) T, .vl (tLst (tLst (tTup tI))) D, .un, .un, .un, .un, .un, .un, .un, .un, .un]) _ b.range e_int (by decide) (Sub.refl _) rfl ?_ ?_ sc_law.nd rfl)
  · rintro m _ hm rfl
    have h1 := hkl (m : Int) (by omega) (by omega)
    have h2 := hki (m : Int) (by omega) (by omega)
    have hg := hT (m : Int) (by omega) (by omega)
    have hgl := hg.len
    have eD := hD (m : Int) (by omega) (by omega)
    refine b_cons (s_own 9 (el_lst (s := tI) eh_nil) ?_ sc_law.nd)
    refine b_freeze 9 rfl ?_
    refine b_cons (s_forL 10 (fun i G' => G' = [.vl (tSq tI) script, .vl (tLst (tTup (tTup tI))) T, .vl (tLst tI) row, .vl (tLst (tLst tI)) c, .un, .vl (tLst (tBook C)) T, .vl (tLst (tLst (tTup tI))) D, .un, .vl tI (m : Int), .vl (tLst tI) ((knotsM (ix T (m : Int))).take i).flatten, .un, .un, .un, .un, .un, .un]) _ (TL.E.is (e_ixL (e_var 6) (e_var 8) (atI_ix (by omega) (by omega))) eD) (Sub.refl _) rfl ?_ ?_ sc_law.nd rfl)
    · rintro i knot _ hi rfl
      have hfl := flat_len (xs := (knotsM (ix T (m : Int))).take i) (n := 81) fun x hx => h2 x (List.mem_of_mem_take hx)
      have htl : ((knotsM (ix T (m : Int))).take i).length ≤ 81 := by rw [List.length_take]; omega
      have hkn := h2 knot (List.mem_of_getElem? hi)
      rw [take_snoc hi, List.flatten_append, List.flatten_singleton]
      refine b_cons (s_set 9 (EL.toE (el_cat (e_var 9) (EL.toE (el_listT b.list (e_var 10))) (by omega))) ?_ sc_law.nd)
      exact B.weak (b_nil rfl) (.same (.same (.same (.same (.un (.same (.same (.un (.same (.same (.un (.un (.un (.un (.un (.un .nil))))))))))))))))
    · rintro _ rfl
      rw [List.take_length]
      refine b_cons (s_lc 11 (lc_RF (f := fun k : Nat => (k : Int)) (g := fun k : Nat => !decide ((k : Int) ∈ (knotsM (ix T (m : Int))).flatten)) (own := [("k", 12)]) b.range (e_lenT b.len (e_ixL (e_var 1) (e_var 8) (atI_ix (by omega) (by omega)))) (by omega) 12 (fun s0 H C cl fp k hk => t_cv (e_var 12) (e_var 9) cv_ninL) (fun s0 H C cl fp k hk hd => e_var 12) (blkOk_by (N := ["script", "tables", "row", "handed", "kind", "books", "dues", "kinds", "side", "held", "knot", "due", "k", "many", "spots", "j"]) (sc := defScope slaw) (by decide +kernel)) (fun _ _ _ _ _ => pg_name sc_law.nd rfl (by first | exact Or.inl rfl | exact Or.inr rfl))) ?_ rfl sc_law.nd)
      refine b_freeze 11 rfl ?_
      rw [Int.toNat_natCast, ← pass_is hg (by omega)]
      have hpl : (passM (ix T (m : Int))).length ≤ 1000 := by
        unfold passM; rw [List.length_map]
        have := List.length_filter_le (fun k : Nat => decide (ix (numbersM (ix T (m : Int))) (k : Int) = none)) (List.range (ix T (m : Int)).length)
        rw [List.length_range] at this; omega
      refine b_cons (s_if (t_not (t_val (e_call C_law_same_rowL (hr.mono (by decide)) (passM (ix T (m : Int)), passM (ix T (m : Int))) (ea_cons (e_call Cpassing_kinds (hr.mono (by decide)) (ix T (m : Int)) (ea_cons (e_ixL (e_var 5) (e_var 8) (atI_ix (by omega) (by omega))) ea_nil) (hg.mono (by omega) (by omega))) (ea_cons (e_var 11) ea_nil)) ⟨rfl, hpl⟩))) (fun h => by cases h) (fun _ => b_nil ?_))
      exact B.weak (b_nil rfl) (.same (.same (.same (.same (.un (.same (.same (.un (.un (.un (.un (.un (.un (.un (.un (.un .nil))))))))))))))))
  rintro _ rfl
  -- single kinds and knots of the renumbered one
  have hg1 := hT 1 (by omega) (by omega)
  have hg2 := hT 2 (by omega) (by omega)
  have hp1 := hg1.pos
  have hp2 := hg2.pos
  have hl1 := hg1.len
  have hl2 := hg2.len
  have eD1 := hD 1 (by omega) (by omega)
  have eD2 := hD 2 (by omega) (by omega)
  have hc5 : (cut row none (some 5)).length ≤ 14 := by unfold cut; rw [List.length_take, List.length_drop]; omega
  have hc10 : (cut row (some 5) (some 10)).length ≤ 14 := by unfold cut; rw [List.length_take, List.length_drop]; omega
  have hc12 : (cut row (some 12) none).length ≤ 14 := by unfold cut; rw [List.length_take, List.length_drop]; omega
  refine b_cons (s_set 13 (e_lenT b.len (e_ixL (e_var 1) e_int (atI_ix (by omega) (by omega)))) ?_ sc_law.nd)
  refine b_cons (s_own 14 (el_lst (s := tI) eh_nil) ?_ sc_law.nd)
  refine b_freeze 14 rfl ?_
  refine b_cut (fun G' => ∃ sp, inR (knotsM (ix T 1)).length sp ∧ G' = [.vl (tSq tI) script, .vl (tLst (tTup (tTup tI))) T, .vl (tLst tI) row, .vl (tLst (tLst tI)) c, .un, .vl (tLst (tBook C)) T, .vl (tLst (tLst (tTup tI))) D, .un, .un, .un, .un, .un, .un, .vl tI ((ix T 1).length : Int), .vl (tLst tI) sp, .un]) (s_if (t_cv (e_lenL b.len (e_ixL (e_var 6) e_int (atI_ix (by omega) (by omega)))) e_int cv_gt) (fun h => ?_) (fun h => ?_)) ?_
  · rw [eD1] at h
    have h := of_decide_eq_true h
    refine b_cons (s_lc 14 (lc_L (f := fun j : Int => j % ((knotsM (ix T 1)).length : Int)) (xs := pickedM (ix T 1).length (cut row (some 5) (some 10))) (own := [("j", 15)]) (e_call C_law_picked (hr.mono (by decide)) (((ix T 1).length : Int), cut row (some 5) (some 10)) (ea_cons (e_var 13) (ea_cons (EL.toE (el_slice (e_var 2) (eo_some e_int) (eo_some e_int))) ea_nil)) (show 1 ≤ ((ix T 1).length : Int) ∧ (cut row (some 5) (some 10)).length ≤ 1000 from ⟨by omega, by omega⟩)) 15 (fun s0 H C cl fp m x hx => e_mod (e_intI b.int (e_var 15)) (TL.E.is (e_lenL b.len (e_ixL (e_var 6) e_int (atI_ix (by omega) (by omega)))) (by rw [eD1])) h) (blkOk_by (N := ["script", "tables", "row", "handed", "kind", "books", "dues", "kinds", "side", "held", "knot", "due", "k", "many", "spots", "j"]) (sc := defScope slaw) (by decide +kernel)) (by have := picked_len (many := ((ix T 1).length : Int)) (row := cut row (some 5) (some 10)) (by omega); omega) (fun _ _ _ _ _ => pg_name sc_law.nd rfl (by first | exact Or.inl rfl | exact Or.inr rfl))) ?_ rfl sc_law.nd)
    refine b_freeze 14 rfl ?_
    exact b_nil ⟨_, emod_in h _, rfl⟩
  · exact b_nil ⟨[], (fun t ht => by cases ht), rfl⟩
  rintro _ ⟨sp1, hsp1, rfl⟩
  refine b_cons (s_if (t_not (t_val (e_call C_law_singles_are (hr.mono (by decide)) (ix T 1, ix T 1, knotsM (ix T 1), pickedM (ix T 1).length (cut row none (some 5)), sp1) (ea_cons (e_ixL (e_var 5) e_int (atI_ix (by omega) (by omega))) (ea_cons (e_ixL (e_var 1) e_int (atI_ix (by omega) (by omega))) (ea_cons (TL.E.is (e_ixL (e_var 6) e_int (atI_ix (by omega) (by omega))) eD1) (ea_cons (e_call C_law_picked (hr.mono (by decide)) (((ix T 1).length : Int), cut row none (some 5)) (ea_cons (e_var 13) (ea_cons (EL.toE (el_slice (e_var 2) eo_none (eo_some e_int))) ea_nil)) (show 1 ≤ ((ix T 1).length : Int) ∧ (cut row none (some 5)).length ≤ 1000 from ⟨by omega, by omega⟩)) (ea_cons (e_var 14) ea_nil))))) (show (ix T 1 = ix T 1 ∧ knotsM (ix T 1) = knotsM (ix T 1)) ∧ Good (ix T 1) 1000 1000 ∧ inR (ix T 1).length (pickedM (ix T 1).length (cut row none (some 5))) ∧ inR (knotsM (ix T 1)).length sp1 from ⟨⟨rfl, rfl⟩, hg1.mono (by omega) (by omega), picked_in (by omega), hsp1⟩)))) (fun h => by cases h) (fun _ => b_nil ?_))
  -- of the sum
  refine b_cons (s_set 13 (e_lenT b.len (e_ixL (e_var 1) e_int (atI_ix (by omega) (by omega)))) ?_ sc_law.nd)
  refine b_cons (s_own 14 (el_lst (s := tI) eh_nil) ?_ sc_law.nd)
  refine b_freeze 14 rfl ?_
  refine b_cut (fun G' => ∃ sp, inR (knotsM (ix T 2)).length sp ∧ G' = [.vl (tSq tI) script, .vl (tLst (tTup (tTup tI))) T, .vl (tLst tI) row, .vl (tLst (tLst tI)) c, .un, .vl (tLst (tBook C)) T, .vl (tLst (tLst (tTup tI))) D, .un, .un, .un, .un, .un, .un, .vl tI ((ix T 2).length : Int), .vl (tLst tI) sp, .un]) (s_if (t_cv (e_lenL b.len (e_ixL (e_var 6) e_int (atI_ix (by omega) (by omega)))) e_int cv_gt) (fun h => ?_) (fun h => ?_)) ?_
  · rw [eD2] at h
    have h := of_decide_eq_true h
    refine b_cons (s_lc 14 (lc_L (f := fun j : Int => j % ((knotsM (ix T 2)).length : Int)) (xs := cut row (some 12) none) (own := [("j", 15)]) (EL.toE (el_slice (e_var 2) (eo_some e_int) eo_none)) 15 (fun s0 H C cl fp m x hx => e_mod (e_intI b.int (e_var 15)) (TL.E.is (e_lenL b.len (e_ixL (e_var 6) e_int (atI_ix (by omega) (by omega)))) (by rw [eD2])) h) (blkOk_by (N := ["script", "tables", "row", "handed", "kind", "books", "dues", "kinds", "side", "held", "knot", "due", "k", "many", "spots", "j"]) (sc := defScope slaw) (by decide +kernel)) (by omega) (fun _ _ _ _ _ => pg_name sc_law.nd rfl (by first | exact Or.inl rfl | exact Or.inr rfl))) ?_ rfl sc_law.nd)
    refine b_freeze 14 rfl ?_
    exact b_nil ⟨_, emod_in h _, rfl⟩
  · exact b_nil ⟨[], (fun t ht => by cases ht), rfl⟩
  rintro _ ⟨sp2, hsp2, rfl⟩
  have m10 : 0 ≤ ix row 10 % ((ix T 2).length : Int) ∧ ix row 10 % ((ix T 2).length : Int) < ((ix T 2).length : Int) := ⟨Int.emod_nonneg _ (by omega), Int.emod_lt_of_pos _ (by omega)⟩
  have m11 : 0 ≤ ix row 11 % ((ix T 2).length : Int) ∧ ix row 11 % ((ix T 2).length : Int) < ((ix T 2).length : Int) := ⟨Int.emod_nonneg _ (by omega), Int.emod_lt_of_pos _ (by omega)⟩
  refine b_cons (s_if (t_not (t_val (e_call C_law_singles_are (hr.mono (by decide)) (ix T 2, ix T 2, knotsM (ix T 2), [0, ix row 10 % ((ix T 2).length : Int), ix row 11 % ((ix T 2).length : Int)], sp2) (ea_cons (e_ixL (e_var 5) e_int (atI_ix (by omega) (by omega))) (ea_cons (e_ixL (e_var 1) e_int (atI_ix (by omega) (by omega))) (ea_cons (TL.E.is (e_ixL (e_var 6) e_int (atI_ix (by omega) (by omega))) eD2) (ea_cons (EL.toE (el_lst (eh_cons e_int (eh_cons (e_mod (e_intI b.int (e_ixL (e_var 2) e_int (atI_ix (by omega) (by omega)))) (e_var 13) (by omega)) (eh_cons (e_mod (e_intI b.int (e_ixL (e_var 2) e_int (atI_ix (by omega) (by omega)))) (e_var 13) (by omega)) eh_nil))))) (ea_cons (e_var 14) ea_nil))))) (show (ix T 2 = ix T 2 ∧ knotsM (ix T 2) = knotsM (ix T 2)) ∧ Good (ix T 2) 1000 1000 ∧ inR (ix T 2).length [0, ix row 10 % ((ix T 2).length : Int), ix row 11 % ((ix T 2).length : Int)] ∧ inR (knotsM (ix T 2)).length sp2 from ⟨⟨rfl, rfl⟩, hg2.mono (by omega) (by omega), fun t ht => by
    simp only [List.mem_cons, List.not_mem_nil, or_false] at ht
    rcases ht with rfl | rfl | rfl
    · omega
    · exact m10
    · exact m11, hsp2⟩)))) (fun h => by cases h) (fun _ => b_nil ?_))
  -- asked again
  refine b_cons (s_forR 8 (fun m G' => G' = [.vl (tSq tI) script, .vl (tLst (tTup (tTup tI))) T, .vl (tLst tI) row, .vl (tLst (tLst tI)) c, .un, .vl (tLst (tBook C)) T, .vl (tLst (tLst (tTup tI))) D, .un, .un, .un, .un, .un, .un, .un, .un, .un]) _ b.range e_int (by decide) (.same (.same (.same (.same (.un (.same (.same (.un (.un (.un (.un (.un (.un (.un (.un (.un .nil)))))))))))))))) rfl ?_ ?_ sc_law.nd rfl)
  · rintro m _ hm rfl
    have h1 := hkl (m : Int) (by omega) (by omega)
    have h2 := hki (m : Int) (by omega) (by omega)
    have hg := hT (m : Int) (by omega) (by omega)
    have hf := hfit _ hg
    refine b_cons (s_if (TW.toT (w_or (t_not (t_val (e_call C_law_same_rowsT (hr.mono (by decide)) (ix T (m : Int), ix T (m : Int)) (ea_cons (e_kinds (e_ixL (e_var 5) (e_var 8) (atI_ix (by omega) (by omega))) hC hna) (ea_cons (e_ixL (e_var 1) (e_var 8) (atI_ix (by omega) (by omega))) ea_nil)) (show ix T (m : Int) = ix T (m : Int) ∧ (ix T (m : Int)).length ≤ 1000 ∧ ∀ r ∈ ix T (m : Int), r.length ≤ 1000 from ⟨rfl, by omega, fun r hr => by have := hf.2 r hr; omega⟩)))) (fun _ => w_or1 (t_not (t_val (e_call C_law_same_rowsL (hr.mono (by decide)) (knotsM (ix T (m : Int)), ix D (m : Int)) (ea_cons (e_call Cknots (hr.mono (by decide)) (ix T (m : Int)) (ea_cons (e_ixL (e_var 5) (e_var 8) (atI_ix (by omega) (by omega))) ea_nil) (hg.mono (by omega) (by omega))) (ea_cons (e_ixL (e_var 6) (e_var 8) (atI_ix (by omega) (by omega))) ea_nil)) (by dsimp only; rw [hD _ (by omega) (by omega)]; exact ⟨rfl, by omega, fun r hr => by have := h2 r hr; omega⟩))))))) (fun h => by cases h) (fun _ => b_nil ?_))
    exact B.weak (b_nil rfl) (.same (.same (.same (.same (.un (.same (.same (.un (.un (.un (.un (.un (.un (.un (.un (.un .nil))))))))))))))))
  rintro _ rfl
  refine b_cons (s_ret (e_and (e_cv (e_var 3) (TL.E.is (EL.toE (el_lc (lc_T (f := fun x : List Int => x) (xs := c) (own := [("kind", 4)]) (TL.E.is (e_ixL (e_var 1) e_int (atI_ix (by omega) (by omega))) hT1) 4 (fun s0 H C cl fp m x hx => EL.toE (el_listT b.list (e_var 4))) (blkOk_by (N := ["script", "tables", "row", "handed", "kind", "books", "dues", "kinds", "side", "held", "knot", "due", "k", "many", "spots", "j"]) (sc := defScope slaw) (by decide +kernel)) (by omega) (fun _ _ _ _ _ => pg_name sc_law.nd rfl (by first | exact Or.inl rfl | exact Or.inr rfl))) rfl sc_law.nd)) (List.map_id' c)) (cv_eqD hr (sh_tabL c) (sh_tabL c) (fun _ _ r => dp_tabL r) (fun _ _ r => dp_tabL r))) (fun _ => e_one (e_call C_law_same_rowsT (hr.mono (by decide)) (c, c) (ea_cons (e_tupL b.tuple (TL.E.is (EL.toE (el_lc (lc_L (f := fun x : List Int => x) (xs := c) (own := [("kind", 4)]) (e_var 3) 4 (fun s0 H C cl fp m x hx => e_tupL b.tuple (e_var 4)) (blkOk_by (N := ["script", "tables", "row", "handed", "kind", "books", "dues", "kinds", "side", "held", "knot", "due", "k", "many", "spots", "j"]) (sc := defScope slaw) (by decide +kernel)) (by omega) (fun _ _ _ _ _ => pg_name sc_law.nd rfl (by first | exact Or.inl rfl | exact Or.inr rfl))) rfl sc_law.nd)) (List.map_id' c))) (ea_cons (TL.E.is (e_ixL (e_var 1) e_int (atI_ix (by omega) (by omega))) hT1) ea_nil)) (show c = c ∧ c.length ≤ 1000 ∧ ∀ r ∈ c, r.length ≤ 1000 from ⟨rfl, by omega, fun r hr => by have := fc.2 r hr; omega⟩)))) (fun M v r => ret_is r ?_))
  rw [eqv_tabL, decide_eq_true rfl]; rfl
end

theorem all_mk {l : PySem.W.OpenLaw} {w : World} {K : PySem.W.Frag} {h : Heap} {mg : Str → Option Value} {fa ADBook f0 f1 f2 f3 f4 f5 f6 f7 f8 f9 f10 f11 f12 f13 f14 f15 f16 f17 f18 f19 f20 f21 f22 f23 f24 f25 f26 f27 f28 f29 f30 f31 f32 f33 f34 f35 f36 f37 f38 f39 f40 f41 f42 f43 f44 f45 f46  : Addr} (X : K.In h) (G : h.Ns mainGlobals mg) (hfa : mg "law" = some (.ref fa))
    {od0 an0 od1 an1 od2 an2 od3 an3 od4 an4 od5 an5 od6 an6 od7 an7 od8 an8 od9 an9 od10 an10 od11 an11 od12 an12 od13 an13 od14 an14 od15 an15 od16 an16 od17 an17 od18 an18 od19 an19 od20 an20 od21 an21 od22 an22 od23 an23 od24 an24 od25 an25 od26 an26 od27 an27 od28 an28 od29 an29 od30 an30 od31 an31 od32 an32 od33 an33 od34 an34 od35 an35 od36 an36 od37 an37 od38 an38 od39 an39 od40 an40 od41 an41 od42 an42 od43 an43 od44 an44 od45 an45 od46 an46 : Option Addr} {sl0 sl1 sl2 sl3 sl4 sl5 sl6 sl7 sl8 sl9 sl10 sl11 sl12 sl13 sl14 sl15 sl16 sl17 sl18 sl19 sl20 sl21 sl22 sl23 sl24 sl25 sl26 sl27 sl28 sl29 sl30 sl31 sl32 sl33 sl34 sl35 sl36 sl37 sl38 sl39 sl40 sl41 sl42 sl43 sl44 sl45 sl46 : Array (Option Value)} {oc0 dc0 pm0 cd0 ct0 kV0 oc1 dc1 pm1 cd1 ct1 kV1 oc2 dc2 pm2 cd2 ct2 kV2 oc3 dc3 pm3 cd3 ct3 kV3 oc4 dc4 pm4 cd4 ct4 kV4 oc5 dc5 pm5 cd5 ct5 kV5 oc6 dc6 pm6 cd6 ct6 kV6 oc7 dc7 pm7 cd7 ct7 kV7 oc8 dc8 pm8 cd8 ct8 kV8 oc9 dc9 pm9 cd9 ct9 kV9 oc10 dc10 pm10 cd10 ct10 kV10 oc11 dc11 pm11 cd11 ct11 kV11 oc12 dc12 pm12 cd12 ct12 kV12 oc13 dc13 pm13 cd13 ct13 kV13 oc14 dc14 pm14 cd14 ct14 kV14 oc15 dc15 pm15 cd15 ct15 kV15 oc16 dc16 pm16 cd16 ct16 kV16 oc17 dc17 pm17 cd17 ct17 kV17 oc18 dc18 pm18 cd18 ct18 kV18 oc19 dc19 pm19 cd19 ct19 kV19 oc20 dc20 pm20 cd20 ct20 kV20 oc21 dc21 pm21 cd21 ct21 kV21 oc22 dc22 pm22 cd22 ct22 kV22 oc23 dc23 pm23 cd23 ct23 kV23 oc24 dc24 pm24 cd24 ct24 kV24 oc25 dc25 pm25 cd25 ct25 kV25 oc26 dc26 pm26 cd26 ct26 kV26 oc27 dc27 pm27 cd27 ct27 kV27 oc28 dc28 pm28 cd28 ct28 kV28 oc29 dc29 pm29 cd29 ct29 kV29 oc30 dc30 pm30 cd30 ct30 kV30 oc31 dc31 pm31 cd31 ct31 kV31 oc32 dc32 pm32 cd32 ct32 kV32 oc33 dc33 pm33 cd33 ct33 kV33 oc34 dc34 pm34 cd34 ct34 kV34 oc35 dc35 pm35 cd35 ct35 kV35 oc36 dc36 pm36 cd36 ct36 kV36 oc37 dc37 pm37 cd37 ct37 kV37 oc38 dc38 pm38 cd38 ct38 kV38 oc39 dc39 pm39 cd39 ct39 kV39 oc40 dc40 pm40 cd40 ct40 kV40 oc41 dc41 pm41 cd41 ct41 kV41 oc42 dc42 pm42 cd42 ct42 kV42 oc43 dc43 pm43 cd43 ct43 kV43 oc44 dc44 pm44 cd44 ct44 kV44 oc45 dc45 pm45 cd45 ct45 kV45 oc46 dc46 pm46 cd46 ct46 kV46 : Value}
    (aDBook : PySem.W.nsIn K mainGlobals "Book" = some (some (.ref ADBook)))
    (a0 : PySem.W.nsIn K mainGlobals "frozen" = some (some (.ref f0)))
    (l0 : K.lookup f0 = some ⟨oc0, od0, .func (PySem.W.fnOf "frozen" "frozen" (defArgs sfrozen) (defBody sfrozen) (defScope sfrozen) .none kV0 dc0 pm0 an0 cd0 ct0), sl0⟩)
    (c0 : PySem.W.codeIn K cd0 "frozen" = true)
    (k0 : PySem.W.keepIn K (.ref f0) = true)
    (a1 : PySem.W.nsIn K mainGlobals "is_whole" = some (some (.ref f1)))
    (l1 : K.lookup f1 = some ⟨oc1, od1, .func (PySem.W.fnOf "is_whole" "is_whole" (defArgs sis_whole) (defBody sis_whole) (defScope sis_whole) .none kV1 dc1 pm1 an1 cd1 ct1), sl1⟩)
    (c1 : PySem.W.codeIn K cd1 "is_whole" = true)
    (k1 : PySem.W.keepIn K (.ref f1) = true)
    (a2 : PySem.W.nsIn K mainGlobals "is_target" = some (some (.ref f2)))
    (l2 : K.lookup f2 = some ⟨oc2, od2, .func (PySem.W.fnOf "is_target" "is_target" (defArgs sis_target) (defBody sis_target) (defScope sis_target) .none kV2 dc2 pm2 an2 cd2 ct2), sl2⟩)
    (c2 : PySem.W.codeIn K cd2 "is_target" = true)
    (k2 : PySem.W.keepIn K (.ref f2) = true)
    (a3 : PySem.W.findIn K (.ref ADBook) "__init__" = some (some (.ref f3)))
    (i3 : PySem.W.isFn K (.ref f3) = true)
    (l3 : K.lookup f3 = some ⟨oc3, od3, .func (PySem.W.fnOf "__init__" "Book.__init__" (defArgs sBook__init__) (defBody sBook__init__) (defScope sBook__init__) .none kV3 dc3 pm3 an3 cd3 ct3), sl3⟩)
    (c3 : PySem.W.codeIn K cd3 "Book.__init__" = true)
    (k3 : PySem.W.keepIn K (.ref f3) = true)
    (a4 : PySem.W.nsIn K mainGlobals "moved_kinds" = some (some (.ref f4)))
    (l4 : K.lookup f4 = some ⟨oc4, od4, .func (PySem.W.fnOf "moved_kinds" "moved_kinds" (defArgs smoved_kinds) (defBody smoved_kinds) (defScope smoved_kinds) .none kV4 dc4 pm4 an4 cd4 ct4), sl4⟩)
    (c4 : PySem.W.codeIn K cd4 "moved_kinds" = true)
    (k4 : PySem.W.keepIn K (.ref f4) = true)
    (a5 : PySem.W.findIn K (.ref ADBook) "__add__" = some (some (.ref f5)))
    (i5 : PySem.W.isFn K (.ref f5) = true)
    (l5 : K.lookup f5 = some ⟨oc5, od5, .func (PySem.W.fnOf "__add__" "Book.__add__" (defArgs sBook__add__) (defBody sBook__add__) (defScope sBook__add__) .none kV5 dc5 pm5 an5 cd5 ct5), sl5⟩)
    (c5 : PySem.W.codeIn K cd5 "Book.__add__" = true)
    (k5 : PySem.W.keepIn K (.ref f5) = true)
    (a6 : PySem.W.nsIn K mainGlobals "reach_flags" = some (some (.ref f6)))
    (l6 : K.lookup f6 = some ⟨oc6, od6, .func (PySem.W.fnOf "reach_flags" "reach_flags" (defArgs sreach_flags) (defBody sreach_flags) (defScope sreach_flags) .none kV6 dc6 pm6 an6 cd6 ct6), sl6⟩)
    (c6 : PySem.W.codeIn K cd6 "reach_flags" = true)
    (k6 : PySem.W.keepIn K (.ref f6) = true)
    (a7 : PySem.W.nsIn K mainGlobals "knot_around" = some (some (.ref f7)))
    (l7 : K.lookup f7 = some ⟨oc7, od7, .func (PySem.W.fnOf "knot_around" "knot_around" (defArgs sknot_around) (defBody sknot_around) (defScope sknot_around) .none kV7 dc7 pm7 an7 cd7 ct7), sl7⟩)
    (c7 : PySem.W.codeIn K cd7 "knot_around" = true)
    (k7 : PySem.W.keepIn K (.ref f7) = true)
    (a8 : PySem.W.nsIn K mainGlobals "is_blocked" = some (some (.ref f8)))
    (l8 : K.lookup f8 = some ⟨oc8, od8, .func (PySem.W.fnOf "is_blocked" "is_blocked" (defArgs sis_blocked) (defBody sis_blocked) (defScope sis_blocked) .none kV8 dc8 pm8 an8 cd8 ct8), sl8⟩)
    (c8 : PySem.W.codeIn K cd8 "is_blocked" = true)
    (k8 : PySem.W.keepIn K (.ref f8) = true)
    (a9 : PySem.W.nsIn K mainGlobals "next_head" = some (some (.ref f9)))
    (l9 : K.lookup f9 = some ⟨oc9, od9, .func (PySem.W.fnOf "next_head" "next_head" (defArgs snext_head) (defBody snext_head) (defScope snext_head) .none kV9 dc9 pm9 an9 cd9 ct9), sl9⟩)
    (c9 : PySem.W.codeIn K cd9 "next_head" = true)
    (k9 : PySem.W.keepIn K (.ref f9) = true)
    (a10 : PySem.W.nsIn K mainGlobals "knot_list" = some (some (.ref f10)))
    (l10 : K.lookup f10 = some ⟨oc10, od10, .func (PySem.W.fnOf "knot_list" "knot_list" (defArgs sknot_list) (defBody sknot_list) (defScope sknot_list) .none kV10 dc10 pm10 an10 cd10 ct10), sl10⟩)
    (c10 : PySem.W.codeIn K cd10 "knot_list" = true)
    (k10 : PySem.W.keepIn K (.ref f10) = true)
    (a11 : PySem.W.nsIn K mainGlobals "knot_numbers" = some (some (.ref f11)))
    (l11 : K.lookup f11 = some ⟨oc11, od11, .func (PySem.W.fnOf "knot_numbers" "knot_numbers" (defArgs sknot_numbers) (defBody sknot_numbers) (defScope sknot_numbers) .none kV11 dc11 pm11 an11 cd11 ct11), sl11⟩)
    (c11 : PySem.W.codeIn K cd11 "knot_numbers" = true)
    (k11 : PySem.W.keepIn K (.ref f11) = true)
    (a12 : PySem.W.nsIn K mainGlobals "is_line_knot" = some (some (.ref f12)))
    (l12 : K.lookup f12 = some ⟨oc12, od12, .func (PySem.W.fnOf "is_line_knot" "is_line_knot" (defArgs sis_line_knot) (defBody sis_line_knot) (defScope sis_line_knot) .none kV12 dc12 pm12 an12 cd12 ct12), sl12⟩)
    (c12 : PySem.W.codeIn K cd12 "is_line_knot" = true)
    (k12 : PySem.W.keepIn K (.ref f12) = true)
    (a13 : PySem.W.nsIn K mainGlobals "line_flags" = some (some (.ref f13)))
    (l13 : K.lookup f13 = some ⟨oc13, od13, .func (PySem.W.fnOf "line_flags" "line_flags" (defArgs sline_flags) (defBody sline_flags) (defScope sline_flags) .none kV13 dc13 pm13 an13 cd13 ct13), sl13⟩)
    (c13 : PySem.W.codeIn K cd13 "line_flags" = true)
    (k13 : PySem.W.keepIn K (.ref f13) = true)
    (a14 : PySem.W.nsIn K mainGlobals "knots" = some (some (.ref f14)))
    (l14 : K.lookup f14 = some ⟨oc14, od14, .func (PySem.W.fnOf "knots" "knots" (defArgs sknots) (defBody sknots) (defScope sknots) .none kV14 dc14 pm14 an14 cd14 ct14), sl14⟩)
    (c14 : PySem.W.codeIn K cd14 "knots" = true)
    (k14 : PySem.W.keepIn K (.ref f14) = true)
    (a15 : PySem.W.nsIn K mainGlobals "knot_of" = some (some (.ref f15)))
    (l15 : K.lookup f15 = some ⟨oc15, od15, .func (PySem.W.fnOf "knot_of" "knot_of" (defArgs sknot_of) (defBody sknot_of) (defScope sknot_of) .none kV15 dc15 pm15 an15 cd15 ct15), sl15⟩)
    (c15 : PySem.W.codeIn K cd15 "knot_of" = true)
    (k15 : PySem.W.keepIn K (.ref f15) = true)
    (a16 : PySem.W.nsIn K mainGlobals "is_line" = some (some (.ref f16)))
    (l16 : K.lookup f16 = some ⟨oc16, od16, .func (PySem.W.fnOf "is_line" "is_line" (defArgs sis_line) (defBody sis_line) (defScope sis_line) .none kV16 dc16 pm16 an16 cd16 ct16), sl16⟩)
    (c16 : PySem.W.codeIn K cd16 "is_line" = true)
    (k16 : PySem.W.keepIn K (.ref f16) = true)
    (a17 : PySem.W.nsIn K mainGlobals "passing_kinds" = some (some (.ref f17)))
    (l17 : K.lookup f17 = some ⟨oc17, od17, .func (PySem.W.fnOf "passing_kinds" "passing_kinds" (defArgs spassing_kinds) (defBody spassing_kinds) (defScope spassing_kinds) .none kV17 dc17 pm17 an17 cd17 ct17), sl17⟩)
    (c17 : PySem.W.codeIn K cd17 "passing_kinds" = true)
    (k17 : PySem.W.keepIn K (.ref f17) = true)
    (a18 : PySem.W.nsIn K mainGlobals "_law_whole" = some (some (.ref f18)))
    (l18 : K.lookup f18 = some ⟨oc18, od18, .func (PySem.W.fnOf "_law_whole" "_law_whole" (defArgs s_law_whole) (defBody s_law_whole) (defScope s_law_whole) .none kV18 dc18 pm18 an18 cd18 ct18), sl18⟩)
    (c18 : PySem.W.codeIn K cd18 "_law_whole" = true)
    (k18 : PySem.W.keepIn K (.ref f18) = true)
    (a19 : PySem.W.nsIn K mainGlobals "_law_cell" = some (some (.ref f19)))
    (l19 : K.lookup f19 = some ⟨oc19, od19, .func (PySem.W.fnOf "_law_cell" "_law_cell" (defArgs s_law_cell) (defBody s_law_cell) (defScope s_law_cell) .none kV19 dc19 pm19 an19 cd19 ct19), sl19⟩)
    (c19 : PySem.W.codeIn K cd19 "_law_cell" = true)
    (k19 : PySem.W.keepIn K (.ref f19) = true)
    (a20 : PySem.W.nsIn K mainGlobals "_law_digits" = some (some (.ref f20)))
    (l20 : K.lookup f20 = some ⟨oc20, od20, .func (PySem.W.fnOf "_law_digits" "_law_digits" (defArgs s_law_digits) (defBody s_law_digits) (defScope s_law_digits) .none kV20 dc20 pm20 an20 cd20 ct20), sl20⟩)
    (c20 : PySem.W.codeIn K cd20 "_law_digits" = true)
    (k20 : PySem.W.keepIn K (.ref f20) = true)
    (a21 : PySem.W.nsIn K mainGlobals "_law_book_sizes" = some (some (.ref f21)))
    (l21 : K.lookup f21 = some ⟨oc21, od21, .func (PySem.W.fnOf "_law_book_sizes" "_law_book_sizes" (defArgs s_law_book_sizes) (defBody s_law_book_sizes) (defScope s_law_book_sizes) .none kV21 dc21 pm21 an21 cd21 ct21), sl21⟩)
    (c21 : PySem.W.codeIn K cd21 "_law_book_sizes" = true)
    (k21 : PySem.W.keepIn K (.ref f21) = true)
    (a22 : PySem.W.nsIn K mainGlobals "_law_target" = some (some (.ref f22)))
    (l22 : K.lookup f22 = some ⟨oc22, od22, .func (PySem.W.fnOf "_law_target" "_law_target" (defArgs s_law_target) (defBody s_law_target) (defScope s_law_target) .none kV22 dc22 pm22 an22 cd22 ct22), sl22⟩)
    (c22 : PySem.W.codeIn K cd22 "_law_target" = true)
    (k22 : PySem.W.keepIn K (.ref f22) = true)
    (a23 : PySem.W.nsIn K mainGlobals "_law_book" = some (some (.ref f23)))
    (l23 : K.lookup f23 = some ⟨oc23, od23, .func (PySem.W.fnOf "_law_book" "_law_book" (defArgs s_law_book) (defBody s_law_book) (defScope s_law_book) .none kV23 dc23 pm23 an23 cd23 ct23), sl23⟩)
    (c23 : PySem.W.codeIn K cd23 "_law_book" = true)
    (k23 : PySem.W.keepIn K (.ref f23) = true)
    (a24 : PySem.W.nsIn K mainGlobals "_law_tower_sizes" = some (some (.ref f24)))
    (l24 : K.lookup f24 = some ⟨oc24, od24, .func (PySem.W.fnOf "_law_tower_sizes" "_law_tower_sizes" (defArgs s_law_tower_sizes) (defBody s_law_tower_sizes) (defScope s_law_tower_sizes) .none kV24 dc24 pm24 an24 cd24 ct24), sl24⟩)
    (c24 : PySem.W.codeIn K cd24 "_law_tower_sizes" = true)
    (k24 : PySem.W.keepIn K (.ref f24) = true)
    (a25 : PySem.W.nsIn K mainGlobals "_law_tower_target" = some (some (.ref f25)))
    (l25 : K.lookup f25 = some ⟨oc25, od25, .func (PySem.W.fnOf "_law_tower_target" "_law_tower_target" (defArgs s_law_tower_target) (defBody s_law_tower_target) (defScope s_law_tower_target) .none kV25 dc25 pm25 an25 cd25 ct25), sl25⟩)
    (c25 : PySem.W.codeIn K cd25 "_law_tower_target" = true)
    (k25 : PySem.W.keepIn K (.ref f25) = true)
    (a26 : PySem.W.nsIn K mainGlobals "_law_tower" = some (some (.ref f26)))
    (l26 : K.lookup f26 = some ⟨oc26, od26, .func (PySem.W.fnOf "_law_tower" "_law_tower" (defArgs s_law_tower) (defBody s_law_tower) (defScope s_law_tower) .none kV26 dc26 pm26 an26 cd26 ct26), sl26⟩)
    (c26 : PySem.W.codeIn K cd26 "_law_tower" = true)
    (k26 : PySem.W.keepIn K (.ref f26) = true)
    (a27 : PySem.W.nsIn K mainGlobals "_law_tidy" = some (some (.ref f27)))
    (l27 : K.lookup f27 = some ⟨oc27, od27, .func (PySem.W.fnOf "_law_tidy" "_law_tidy" (defArgs s_law_tidy) (defBody s_law_tidy) (defScope s_law_tidy) .none kV27 dc27 pm27 an27 cd27 ct27), sl27⟩)
    (c27 : PySem.W.codeIn K cd27 "_law_tidy" = true)
    (k27 : PySem.W.keepIn K (.ref f27) = true)
    (a28 : PySem.W.nsIn K mainGlobals "_law_ring" = some (some (.ref f28)))
    (l28 : K.lookup f28 = some ⟨oc28, od28, .func (PySem.W.fnOf "_law_ring" "_law_ring" (defArgs s_law_ring) (defBody s_law_ring) (defScope s_law_ring) .none kV28 dc28 pm28 an28 cd28 ct28), sl28⟩)
    (c28 : PySem.W.codeIn K cd28 "_law_ring" = true)
    (k28 : PySem.W.keepIn K (.ref f28) = true)
    (a29 : PySem.W.nsIn K mainGlobals "_law_knit" = some (some (.ref f29)))
    (l29 : K.lookup f29 = some ⟨oc29, od29, .func (PySem.W.fnOf "_law_knit" "_law_knit" (defArgs s_law_knit) (defBody s_law_knit) (defScope s_law_knit) .none kV29 dc29 pm29 an29 cd29 ct29), sl29⟩)
    (c29 : PySem.W.codeIn K cd29 "_law_knit" = true)
    (k29 : PySem.W.keepIn K (.ref f29) = true)
    (a30 : PySem.W.nsIn K mainGlobals "_law_order" = some (some (.ref f30)))
    (l30 : K.lookup f30 = some ⟨oc30, od30, .func (PySem.W.fnOf "_law_order" "_law_order" (defArgs s_law_order) (defBody s_law_order) (defScope s_law_order) .none kV30 dc30 pm30 an30 cd30 ct30), sl30⟩)
    (c30 : PySem.W.codeIn K cd30 "_law_order" = true)
    (k30 : PySem.W.keepIn K (.ref f30) = true)
    (a31 : PySem.W.nsIn K mainGlobals "_law_named" = some (some (.ref f31)))
    (l31 : K.lookup f31 = some ⟨oc31, od31, .func (PySem.W.fnOf "_law_named" "_law_named" (defArgs s_law_named) (defBody s_law_named) (defScope s_law_named) .none kV31 dc31 pm31 an31 cd31 ct31), sl31⟩)
    (c31 : PySem.W.codeIn K cd31 "_law_named" = true)
    (k31 : PySem.W.keepIn K (.ref f31) = true)
    (a32 : PySem.W.nsIn K mainGlobals "_law_renumbered" = some (some (.ref f32)))
    (l32 : K.lookup f32 = some ⟨oc32, od32, .func (PySem.W.fnOf "_law_renumbered" "_law_renumbered" (defArgs s_law_renumbered) (defBody s_law_renumbered) (defScope s_law_renumbered) .none kV32 dc32 pm32 an32 cd32 ct32), sl32⟩)
    (c32 : PySem.W.codeIn K cd32 "_law_renumbered" = true)
    (k32 : PySem.W.keepIn K (.ref f32) = true)
    (a33 : PySem.W.nsIn K mainGlobals "_law_reach" = some (some (.ref f33)))
    (l33 : K.lookup f33 = some ⟨oc33, od33, .func (PySem.W.fnOf "_law_reach" "_law_reach" (defArgs s_law_reach) (defBody s_law_reach) (defScope s_law_reach) .none kV33 dc33 pm33 an33 cd33 ct33), sl33⟩)
    (c33 : PySem.W.codeIn K cd33 "_law_reach" = true)
    (k33 : PySem.W.keepIn K (.ref f33) = true)
    (a34 : PySem.W.nsIn K mainGlobals "_law_touches" = some (some (.ref f34)))
    (l34 : K.lookup f34 = some ⟨oc34, od34, .func (PySem.W.fnOf "_law_touches" "_law_touches" (defArgs s_law_touches) (defBody s_law_touches) (defScope s_law_touches) .none kV34 dc34 pm34 an34 cd34 ct34), sl34⟩)
    (c34 : PySem.W.codeIn K cd34 "_law_touches" = true)
    (k34 : PySem.W.keepIn K (.ref f34) = true)
    (a35 : PySem.W.nsIn K mainGlobals "_law_knots" = some (some (.ref f35)))
    (l35 : K.lookup f35 = some ⟨oc35, od35, .func (PySem.W.fnOf "_law_knots" "_law_knots" (defArgs s_law_knots) (defBody s_law_knots) (defScope s_law_knots) .none kV35 dc35 pm35 an35 cd35 ct35), sl35⟩)
    (c35 : PySem.W.codeIn K cd35 "_law_knots" = true)
    (k35 : PySem.W.keepIn K (.ref f35) = true)
    (a36 : PySem.W.nsIn K mainGlobals "_law_one_each" = some (some (.ref f36)))
    (l36 : K.lookup f36 = some ⟨oc36, od36, .func (PySem.W.fnOf "_law_one_each" "_law_one_each" (defArgs s_law_one_each) (defBody s_law_one_each) (defScope s_law_one_each) .none kV36 dc36 pm36 an36 cd36 ct36), sl36⟩)
    (c36 : PySem.W.codeIn K cd36 "_law_one_each" = true)
    (k36 : PySem.W.keepIn K (.ref f36) = true)
    (a37 : PySem.W.nsIn K mainGlobals "_law_sum" = some (some (.ref f37)))
    (l37 : K.lookup f37 = some ⟨oc37, od37, .func (PySem.W.fnOf "_law_sum" "_law_sum" (defArgs s_law_sum) (defBody s_law_sum) (defScope s_law_sum) .none kV37 dc37 pm37 an37 cd37 ct37), sl37⟩)
    (c37 : PySem.W.codeIn K cd37 "_law_sum" = true)
    (k37 : PySem.W.keepIn K (.ref f37) = true)
    (a38 : PySem.W.nsIn K mainGlobals "_law_flag" = some (some (.ref f38)))
    (l38 : K.lookup f38 = some ⟨oc38, od38, .func (PySem.W.fnOf "_law_flag" "_law_flag" (defArgs s_law_flag) (defBody s_law_flag) (defScope s_law_flag) .none kV38 dc38 pm38 an38 cd38 ct38), sl38⟩)
    (c38 : PySem.W.codeIn K cd38 "_law_flag" = true)
    (k38 : PySem.W.keepIn K (.ref f38) = true)
    (a39 : PySem.W.nsIn K mainGlobals "_law_number" = some (some (.ref f39)))
    (l39 : K.lookup f39 = some ⟨oc39, od39, .func (PySem.W.fnOf "_law_number" "_law_number" (defArgs s_law_number) (defBody s_law_number) (defScope s_law_number) .none kV39 dc39 pm39 an39 cd39 ct39), sl39⟩)
    (c39 : PySem.W.codeIn K cd39 "_law_number" = true)
    (k39 : PySem.W.keepIn K (.ref f39) = true)
    (a40 : PySem.W.nsIn K mainGlobals "_law_same_row" = some (some (.ref f40)))
    (l40 : K.lookup f40 = some ⟨oc40, od40, .func (PySem.W.fnOf "_law_same_row" "_law_same_row" (defArgs s_law_same_row) (defBody s_law_same_row) (defScope s_law_same_row) .none kV40 dc40 pm40 an40 cd40 ct40), sl40⟩)
    (c40 : PySem.W.codeIn K cd40 "_law_same_row" = true)
    (k40 : PySem.W.keepIn K (.ref f40) = true)
    (a41 : PySem.W.nsIn K mainGlobals "_law_same_rows" = some (some (.ref f41)))
    (l41 : K.lookup f41 = some ⟨oc41, od41, .func (PySem.W.fnOf "_law_same_rows" "_law_same_rows" (defArgs s_law_same_rows) (defBody s_law_same_rows) (defScope s_law_same_rows) .none kV41 dc41 pm41 an41 cd41 ct41), sl41⟩)
    (c41 : PySem.W.codeIn K cd41 "_law_same_rows" = true)
    (k41 : PySem.W.keepIn K (.ref f41) = true)
    (a42 : PySem.W.nsIn K mainGlobals "_law_broad" = some (some (.ref f42)))
    (l42 : K.lookup f42 = some ⟨oc42, od42, .func (PySem.W.fnOf "_law_broad" "_law_broad" (defArgs s_law_broad) (defBody s_law_broad) (defScope s_law_broad) .none kV42 dc42 pm42 an42 cd42 ct42), sl42⟩)
    (c42 : PySem.W.codeIn K cd42 "_law_broad" = true)
    (k42 : PySem.W.keepIn K (.ref f42) = true)
    (a43 : PySem.W.nsIn K mainGlobals "_law_drawn" = some (some (.ref f43)))
    (l43 : K.lookup f43 = some ⟨oc43, od43, .func (PySem.W.fnOf "_law_drawn" "_law_drawn" (defArgs s_law_drawn) (defBody s_law_drawn) (defScope s_law_drawn) .none kV43 dc43 pm43 an43 cd43 ct43), sl43⟩)
    (c43 : PySem.W.codeIn K cd43 "_law_drawn" = true)
    (k43 : PySem.W.keepIn K (.ref f43) = true)
    (a44 : PySem.W.nsIn K mainGlobals "_law_picked" = some (some (.ref f44)))
    (l44 : K.lookup f44 = some ⟨oc44, od44, .func (PySem.W.fnOf "_law_picked" "_law_picked" (defArgs s_law_picked) (defBody s_law_picked) (defScope s_law_picked) .none kV44 dc44 pm44 an44 cd44 ct44), sl44⟩)
    (c44 : PySem.W.codeIn K cd44 "_law_picked" = true)
    (k44 : PySem.W.keepIn K (.ref f44) = true)
    (a45 : PySem.W.nsIn K mainGlobals "_law_singles_are" = some (some (.ref f45)))
    (l45 : K.lookup f45 = some ⟨oc45, od45, .func (PySem.W.fnOf "_law_singles_are" "_law_singles_are" (defArgs s_law_singles_are) (defBody s_law_singles_are) (defScope s_law_singles_are) .none kV45 dc45 pm45 an45 cd45 ct45), sl45⟩)
    (c45 : PySem.W.codeIn K cd45 "_law_singles_are" = true)
    (k45 : PySem.W.keepIn K (.ref f45) = true)
    (a46 : PySem.W.nsIn K mainGlobals "law" = some (some (.ref f46)))
    (l46 : K.lookup f46 = some ⟨oc46, od46, .func (PySem.W.fnOf "law" "law" (defArgs slaw) (defBody slaw) (defScope slaw) .none kV46 dc46 pm46 an46 cd46 ct46), sl46⟩)
    (c46 : PySem.W.codeIn K cd46 "law" = true)
    (k46 : PySem.W.keepIn K (.ref f46) = true)
    (pgBook : PySem.W.plainGet K ADBook Str.empty = true)
    (hdBook : PySem.W.hasDictIn K ADBook = true)
    (poBook : PySem.W.plainOver K ADBook = true)
    (saBook : PySem.W.findIn K (.ref ADBook) "__setattr__" = some (some (.builtin "object.__setattr__")))
    (mkBook : PySem.W.makesIn K ADBook = true)
    (kcBook : PySem.W.keepIn K (.ref ADBook) = true)
    (xaBook : PySem.W.findIn K (.ref ADBook) "__class__" = some (some (.builtin "object.__class__")))
    (xnBook : PySem.W.specialIn K (.builtin "object.__class__") "__get__" = some (some (.builtin "getset_descriptor.__get__")))
    (xtBook : PySem.W.takesIn K (.builtin "object.__class__") = some true)
    (xmBook : PySem.W.mroIn K ADBook (.type "object") = some true)
    (sfBook : PySem.W.selfFirst K ADBook = true)
    (naBook_kinds : PySem.W.findIn K (.ref ADBook) "kinds" = some none)
    (z_len : PySem.W.nsIn K mainGlobals "len" = some none)
    (z_int : PySem.W.nsIn K mainGlobals "int" = some none)
    (z_min : PySem.W.nsIn K mainGlobals "min" = some none)
    (z_max : PySem.W.nsIn K mainGlobals "max" = some none)
    (z_range : PySem.W.nsIn K mainGlobals "range" = some none)
    (z_list : PySem.W.nsIn K mainGlobals "list" = some none)
    (z_tuple : PySem.W.nsIn K mainGlobals "tuple" = some none)
    (z_isinstance : PySem.W.nsIn K mainGlobals "isinstance" = some none)
    (z_str : PySem.W.nsIn K mainGlobals "str" = some none)
    (z_bool : PySem.W.nsIn K mainGlobals "bool" = some none)
    (z_sum : PySem.W.nsIn K mainGlobals "sum" = some none)
    (z_sorted : PySem.W.nsIn K mainGlobals "sorted" = some none)
    (z_repr : PySem.W.nsIn K mainGlobals "repr" = some none)
    (z_iter : PySem.W.nsIn K mainGlobals "iter" = some none)
    (z_enumerate : PySem.W.nsIn K mainGlobals "enumerate" = some none)
    (z_zip : PySem.W.nsIn K mainGlobals "zip" = some none)
    (z_reversed : PySem.W.nsIn K mainGlobals "reversed" = some none)
    (z_any : PySem.W.nsIn K mainGlobals "any" = some none)
    (z_all : PySem.W.nsIn K mainGlobals "all" = some none)
    (z_abs : PySem.W.nsIn K mainGlobals "abs" = some none)
    (z_set : PySem.W.nsIn K mainGlobals "set" = some none)
    (z_dict : PySem.W.nsIn K mainGlobals "dict" = some none)
    (z_ValueError : PySem.W.nsIn K mainGlobals "ValueError" = some none) :
    ∃ fd : FuncData, (∀ (s : Shared) (v : Value), BindsTo s fd ⟨[v], []⟩ [("script", v)]) ∧ ∀ base : Heap, K.In base → base.Ns mainGlobals mg → FnOk l.prog w K mg base CX0 8 fa fd ["script"] (splaw K) := by
  have e := hfa.symm.trans (PySem.W.mg_of X G a46)
  cases e
  have b : Bi mg := ⟨PySem.W.mg_none_of X G z_len, PySem.W.mg_none_of X G z_int, PySem.W.mg_none_of X G z_min, PySem.W.mg_none_of X G z_max, PySem.W.mg_none_of X G z_range, PySem.W.mg_none_of X G z_list, PySem.W.mg_none_of X G z_tuple, PySem.W.mg_none_of X G z_isinstance, PySem.W.mg_none_of X G z_str, PySem.W.mg_none_of X G z_bool, PySem.W.mg_none_of X G z_sum, PySem.W.mg_none_of X G z_sorted, PySem.W.mg_none_of X G z_repr, PySem.W.mg_none_of X G z_iter, PySem.W.mg_none_of X G z_enumerate, PySem.W.mg_none_of X G z_zip, PySem.W.mg_none_of X G z_reversed, PySem.W.mg_none_of X G z_any, PySem.W.mg_none_of X G z_all, PySem.W.mg_none_of X G z_abs, PySem.W.mg_none_of X G z_set, PySem.W.mg_none_of X G z_dict, PySem.W.mg_none_of X G z_ValueError⟩
  have clsBook : Cls K ADBook := ⟨pgBook, hdBook, poBook, saBook⟩
  have insBook : C8.InsC K ADBook := ⟨clsBook, xaBook, xnBook, xtBook, xmBook, if_pos (beq_self_eq_true _)⟩
  have F0 := fun_mk (st := sfrozen) l0 c0 k0
  have b0 := F0.binds (ps := ["value"]) fun _ _ _ _ _ _ us hl => match us, hl with | [_], _ => rfl
  have F1 := fun_mk (st := sis_whole) l1 c1 k1
  have b1 := F1.binds (ps := ["value"]) fun _ _ _ _ _ _ us hl => match us, hl with | [_], _ => rfl
  have F2 := fun_mk (st := sis_target) l2 c2 k2
  have b2 := F2.binds (ps := ["value", "many"]) fun _ _ _ _ _ _ us hl => match us, hl with | [_, _], _ => rfl
  have F3 := fun_mk (st := sBook__init__) l3 c3 k3
  have b3 := F3.binds (ps := ["self", "kinds"]) fun _ _ _ _ _ _ us hl => match us, hl with | [_, _], _ => rfl
  have F4 := fun_mk (st := smoved_kinds) l4 c4 k4
  have b4 := F4.binds (ps := ["kinds", "amount"]) fun _ _ _ _ _ _ us hl => match us, hl with | [_, _], _ => rfl
  have F5 := fun_mk (st := sBook__add__) l5 c5 k5
  have b5 := F5.binds (ps := ["self", "other"]) fun _ _ _ _ _ _ us hl => match us, hl with | [_, _], _ => rfl
  have F6 := fun_mk (st := sreach_flags) l6 c6 k6
  have b6 := F6.binds (ps := ["kinds", "kind"]) fun _ _ _ _ _ _ us hl => match us, hl with | [_, _], _ => rfl
  have F7 := fun_mk (st := sknot_around) l7 c7 k7
  have b7 := F7.binds (ps := ["table", "kind"]) fun _ _ _ _ _ _ us hl => match us, hl with | [_, _], _ => rfl
  have F8 := fun_mk (st := sis_blocked) l8 c8 k8
  have b8 := F8.binds (ps := ["table", "waiting", "head"]) fun _ _ _ _ _ _ us hl => match us, hl with | [_, _, _], _ => rfl
  have F9 := fun_mk (st := snext_head) l9 c9 k9
  have b9 := F9.binds (ps := ["table", "waiting"]) fun _ _ _ _ _ _ us hl => match us, hl with | [_, _], _ => rfl
  have F10 := fun_mk (st := sknot_list) l10 c10 k10
  have b10 := F10.binds (ps := ["kinds"]) fun _ _ _ _ _ _ us hl => match us, hl with | [_], _ => rfl
  have F11 := fun_mk (st := sknot_numbers) l11 c11 k11
  have b11 := F11.binds (ps := ["kinds"]) fun _ _ _ _ _ _ us hl => match us, hl with | [_], _ => rfl
  have F12 := fun_mk (st := sis_line_knot) l12 c12 k12
  have b12 := F12.binds (ps := ["kinds", "knot"]) fun _ _ _ _ _ _ us hl => match us, hl with | [_, _], _ => rfl
  have F13 := fun_mk (st := sline_flags) l13 c13 k13
  have b13 := F13.binds (ps := ["kinds"]) fun _ _ _ _ _ _ us hl => match us, hl with | [_], _ => rfl
  have F14 := fun_mk (st := sknots) l14 c14 k14
  have b14 := F14.binds (ps := ["book"]) fun _ _ _ _ _ _ us hl => match us, hl with | [_], _ => rfl
  have F15 := fun_mk (st := sknot_of) l15 c15 k15
  have b15 := F15.binds (ps := ["book", "kind"]) fun _ _ _ _ _ _ us hl => match us, hl with | [_, _], _ => rfl
  have F16 := fun_mk (st := sis_line) l16 c16 k16
  have b16 := F16.binds (ps := ["book", "knot"]) fun _ _ _ _ _ _ us hl => match us, hl with | [_, _], _ => rfl
  have F17 := fun_mk (st := spassing_kinds) l17 c17 k17
  have b17 := F17.binds (ps := ["book"]) fun _ _ _ _ _ _ us hl => match us, hl with | [_], _ => rfl
  have F18 := fun_mk (st := s_law_whole) l18 c18 k18
  have b18 := F18.binds (ps := ["value"]) fun _ _ _ _ _ _ us hl => match us, hl with | [_], _ => rfl
  have F19 := fun_mk (st := s_law_cell) l19 c19 k19
  have b19 := F19.binds (ps := ["script", "k"]) fun _ _ _ _ _ _ us hl => match us, hl with | [_, _], _ => rfl
  have F20 := fun_mk (st := s_law_digits) l20 c20 k20
  have b20 := F20.binds (ps := ["cell", "sizes"]) fun _ _ _ _ _ _ us hl => match us, hl with | [_, _], _ => rfl
  have F21 := fun_mk (st := s_law_book_sizes) l21 c21 k21
  have b21 := F21.binds (ps := ["n", "e"]) fun _ _ _ _ _ _ us hl => match us, hl with | [_, _], _ => rfl
  have F22 := fun_mk (st := s_law_target) l22 c22 k22
  have b22 := F22.binds (ps := ["digit", "k", "many", "j"]) fun _ _ _ _ _ _ us hl => match us, hl with | [_, _, _, _], _ => rfl
  have F23 := fun_mk (st := s_law_book) l23 c23 k23
  have b23 := F23.binds (ps := ["row", "n", "e"]) fun _ _ _ _ _ _ us hl => match us, hl with | [_, _, _], _ => rfl
  have F24 := fun_mk (st := s_law_tower_sizes) l24 c24 k24
  have b24 := F24.binds (ps := ["n", "e"]) fun _ _ _ _ _ _ us hl => match us, hl with | [_, _], _ => rfl
  have F25 := fun_mk (st := s_law_tower_target) l25 c25 k25
  have b25 := F25.binds (ps := ["digit", "k", "many"]) fun _ _ _ _ _ _ us hl => match us, hl with | [_, _, _], _ => rfl
  have F26 := fun_mk (st := s_law_tower) l26 c26 k26
  have b26 := F26.binds (ps := ["row", "n", "e"]) fun _ _ _ _ _ _ us hl => match us, hl with | [_, _, _], _ => rfl
  have F27 := fun_mk (st := s_law_tidy) l27 c27 k27
  have b27 := F27.binds (ps := ["kinds"]) fun _ _ _ _ _ _ us hl => match us, hl with | [_], _ => rfl
  have F28 := fun_mk (st := s_law_ring) l28 c28 k28
  have b28 := F28.binds (ps := ["kinds", "first", "last", "place"]) fun _ _ _ _ _ _ us hl => match us, hl with | [_, _, _, _], _ => rfl
  have F29 := fun_mk (st := s_law_knit) l29 c29 k29
  have b29 := F29.binds (ps := ["kinds", "row"]) fun _ _ _ _ _ _ us hl => match us, hl with | [_, _], _ => rfl
  have F30 := fun_mk (st := s_law_order) l30 c30 k30
  have b30 := F30.binds (ps := ["row", "many"]) fun _ _ _ _ _ _ us hl => match us, hl with | [_, _], _ => rfl
  have F31 := fun_mk (st := s_law_named) l31 c31 k31
  have b31 := F31.binds (ps := ["t", "place"]) fun _ _ _ _ _ _ us hl => match us, hl with | [_, _], _ => rfl
  have F32 := fun_mk (st := s_law_renumbered) l32 c32 k32
  have b32 := F32.binds (ps := ["kinds", "order"]) fun _ _ _ _ _ _ us hl => match us, hl with | [_, _], _ => rfl
  have F33 := fun_mk (st := s_law_reach) l33 c33 k33
  have b33 := F33.binds (ps := ["kinds"]) fun _ _ _ _ _ _ us hl => match us, hl with | [_], _ => rfl
  have F34 := fun_mk (st := s_law_touches) l34 c34 k34
  have b34 := F34.binds (ps := ["reach", "knot", "others"]) fun _ _ _ _ _ _ us hl => match us, hl with | [_, _, _], _ => rfl
  have F35 := fun_mk (st := s_law_knots) l35 c35 k35
  have b35 := F35.binds (ps := ["reach"]) fun _ _ _ _ _ _ us hl => match us, hl with | [_], _ => rfl
  have F36 := fun_mk (st := s_law_one_each) l36 c36 k36
  have b36 := F36.binds (ps := ["kinds", "knot"]) fun _ _ _ _ _ _ us hl => match us, hl with | [_, _], _ => rfl
  have F37 := fun_mk (st := s_law_sum) l37 c37 k37
  have b37 := F37.binds (ps := ["left", "right"]) fun _ _ _ _ _ _ us hl => match us, hl with | [_, _], _ => rfl
  have F38 := fun_mk (st := s_law_flag) l38 c38 k38
  have b38 := F38.binds (ps := ["told", "due"]) fun _ _ _ _ _ _ us hl => match us, hl with | [_, _], _ => rfl
  have F39 := fun_mk (st := s_law_number) l39 c39 k39
  have b39 := F39.binds (ps := ["told", "due"]) fun _ _ _ _ _ _ us hl => match us, hl with | [_, _], _ => rfl
  have F40 := fun_mk (st := s_law_same_row) l40 c40 k40
  have b40 := F40.binds (ps := ["told", "due"]) fun _ _ _ _ _ _ us hl => match us, hl with | [_, _], _ => rfl
  have F41 := fun_mk (st := s_law_same_rows) l41 c41 k41
  have b41 := F41.binds (ps := ["told", "due"]) fun _ _ _ _ _ _ us hl => match us, hl with | [_, _], _ => rfl
  have F42 := fun_mk (st := s_law_broad) l42 c42 k42
  have b42 := F42.binds (ps := ["kinds", "row", "limit"]) fun _ _ _ _ _ _ us hl => match us, hl with | [_, _, _], _ => rfl
  have F43 := fun_mk (st := s_law_drawn) l43 c43 k43
  have b43 := F43.binds (ps := ["script"]) fun _ _ _ _ _ _ us hl => match us, hl with | [_], _ => rfl
  have F44 := fun_mk (st := s_law_picked) l44 c44 k44
  have b44 := F44.binds (ps := ["many", "row"]) fun _ _ _ _ _ _ us hl => match us, hl with | [_, _], _ => rfl
  have F45 := fun_mk (st := s_law_singles_are) l45 c45 k45
  have b45 := F45.binds (ps := ["book", "kinds", "due", "picks", "spots"]) fun _ _ _ _ _ _ us hl => match us, hl with | [_, _, _, _, _], _ => rfl
  have F46 := fun_mk (st := slaw) l46 c46 k46
  refine ⟨PySem.W.fnOf "law" "law" (defArgs slaw) (defBody slaw) (defScope slaw) .none kV46 dc46 pm46 an46 cd46 ct46, fun s v => .of_eq rfl, fun base _ _ => ?_⟩
  have Cfrozen : Fn l.prog w K mg base CX0 3 "frozen" ["value"] (spFz K 2) := fn_in X G a0 F0 b0 (Ea.ok_frozen F0 b (PySem.W.mg_of X G a0) b0 2)
  have Cis_whole : Fn l.prog w K mg base CX0 1 "is_whole" ["value"] (spWhole K) := fn_in X G a1 F1 b1 (okis_whole F1 b)
  have Cis_target : Fn l.prog w K mg base CX0 2 "is_target" ["value", "many"] (spis_target K) := fn_in X G a2 F2 b2 (okis_target F2 b Cis_whole)
  have CBook : Mkr l.prog w K mg base 4 "Book" ADBook ["self", "kinds"] (spBook__init__ K ADBook) := ⟨f3, _, ⟨mkBook, a3, i3, kcBook⟩, okBook__init__ clsBook naBook_kinds F3 b Cfrozen Cis_target, PySem.W.mg_of X G aDBook, b3⟩
  have Cmoved_kinds : Fn l.prog w K mg base CX0 1 "moved_kinds" ["kinds", "amount"] (spmoved_kinds K) := fn_in X G a4 F4 b4 (okmoved_kinds F4 b)
  have CAdd : AddC l.prog w K mg base 6 ADBook ["self", "other"] (spBook__add__ K ADBook) := ⟨f5, _, sfBook, a5, i5, b5, okBook__add__ clsBook naBook_kinds F5 b CBook Cmoved_kinds⟩
  have Creach_flags : Fn l.prog w K mg base CX0 1 "reach_flags" ["kinds", "kind"] (spreach_flags K) := fn_in X G a6 F6 b6 (okreach_flags F6 b)
  have Cknot_around : Fn l.prog w K mg base CX0 1 "knot_around" ["table", "kind"] (spknot_around K) := fn_in X G a7 F7 b7 (okknot_around F7 b)
  have Cis_blocked : Fn l.prog w K mg base CX0 1 "is_blocked" ["table", "waiting", "head"] (spis_blocked K) := fn_in X G a8 F8 b8 (okis_blocked F8 b)
  have Cnext_head : Fn l.prog w K mg base CX0 2 "next_head" ["table", "waiting"] (spnext_head K) := fn_in X G a9 F9 b9 (oknext_head F9 b Cis_blocked)
  have Cknot_list : Fn l.prog w K mg base CX0 3 "knot_list" ["kinds"] (spknot_list K) := fn_in X G a10 F10 b10 (okknot_list F10 b Creach_flags Cknot_around Cnext_head)
  have Cknot_numbers : Fn l.prog w K mg base CX0 4 "knot_numbers" ["kinds"] (spknot_numbers K) := fn_in X G a11 F11 b11 (okknot_numbers F11 b Cknot_list)
  have Cis_line_knot : Fn l.prog w K mg base CX0 1 "is_line_knot" ["kinds", "knot"] (spis_line_knot K) := fn_in X G a12 F12 b12 (okis_line_knot F12 b)
  have Cline_flags : Fn l.prog w K mg base CX0 4 "line_flags" ["kinds"] (spline_flags K) := fn_in X G a13 F13 b13 (okline_flags F13 b Cknot_list Cis_line_knot)
  have Cknots : Fn l.prog w K mg base CX0 4 "knots" ["book"] (spknots K ADBook) := fn_in X G a14 F14 b14 (okknots clsBook naBook_kinds F14 b Cknot_list)
  have Cknot_of : Fn l.prog w K mg base CX0 5 "knot_of" ["book", "kind"] (spknot_of K ADBook) := fn_in X G a15 F15 b15 (okknot_of clsBook naBook_kinds F15 b Cknot_numbers)
  have Cis_line : Fn l.prog w K mg base CX0 5 "is_line" ["book", "knot"] (spis_line K ADBook) := fn_in X G a16 F16 b16 (okis_line clsBook naBook_kinds F16 b Cline_flags)
  have Cpassing_kinds : Fn l.prog w K mg base CX0 5 "passing_kinds" ["book"] (sppassing_kinds K ADBook) := fn_in X G a17 F17 b17 (okpassing_kinds clsBook naBook_kinds F17 b Cknot_numbers)
  have C_law_whole : Fn l.prog w K mg base CX0 1 "_law_whole" ["value"] (spWhole K) := fn_in X G a18 F18 b18 (ok_law_whole F18 b)
  have C_law_cell : Fn l.prog w K mg base CX0 1 "_law_cell" ["script", "k"] (sp_law_cell K) := fn_in X G a19 F19 b19 (ok_law_cell F19 b)
  have C_law_digits : Fn l.prog w K mg base CX0 1 "_law_digits" ["cell", "sizes"] (sp_law_digits K) := fn_in X G a20 F20 b20 (ok_law_digits F20 b)
  have C_law_book_sizes : Fn l.prog w K mg base CX0 1 "_law_book_sizes" ["n", "e"] (sp_law_book_sizes K) := fn_in X G a21 F21 b21 (ok_law_book_sizes F21 b)
  have C_law_target : Fn l.prog w K mg base CX0 1 "_law_target" ["digit", "k", "many", "j"] (sp_law_target K) := fn_in X G a22 F22 b22 (ok_law_target F22 b)
  have C_law_book : Fn l.prog w K mg base CX0 2 "_law_book" ["row", "n", "e"] (sp_law_book K) := fn_in X G a23 F23 b23 (ok_law_book F23 b C_law_target)
  have C_law_tower_sizes : Fn l.prog w K mg base CX0 1 "_law_tower_sizes" ["n", "e"] (sp_law_tower_sizes K) := fn_in X G a24 F24 b24 (ok_law_tower_sizes F24 b)
  have C_law_tower_target : Fn l.prog w K mg base CX0 1 "_law_tower_target" ["digit", "k", "many"] (sp_law_tower_target K) := fn_in X G a25 F25 b25 (ok_law_tower_target F25 b)
  have C_law_tower : Fn l.prog w K mg base CX0 2 "_law_tower" ["row", "n", "e"] (sp_law_tower K) := fn_in X G a26 F26 b26 (ok_law_tower F26 b C_law_tower_target)
  have C_law_tidy : Fn l.prog w K mg base CX0 1 "_law_tidy" ["kinds"] (sp_law_tidy K) := fn_in X G a27 F27 b27 (ok_law_tidy F27 b)
  have C_law_ring : Fn l.prog w K mg base CX0 1 "_law_ring" ["kinds", "first", "last", "place"] (sp_law_ring K) := fn_in X G a28 F28 b28 (ok_law_ring F28 b)
  have C_law_knit : Fn l.prog w K mg base CX0 2 "_law_knit" ["kinds", "row"] (sp_law_knit K) := fn_in X G a29 F29 b29 (ok_law_knit F29 b C_law_tidy C_law_ring)
  have C_law_order : Fn l.prog w K mg base CX0 1 "_law_order" ["row", "many"] (sp_law_order K) := fn_in X G a30 F30 b30 (ok_law_order F30 b)
  have C_law_named : Fn l.prog w K mg base CX0 1 "_law_named" ["t", "place"] (sp_law_named K) := fn_in X G a31 F31 b31 (ok_law_named F31 b)
  have C_law_renumbered : Fn l.prog w K mg base CX0 2 "_law_renumbered" ["kinds", "order"] (sp_law_renumbered K) := fn_in X G a32 F32 b32 (ok_law_renumbered F32 b C_law_named)
  have C_law_reach : Fn l.prog w K mg base CX0 1 "_law_reach" ["kinds"] (spRT K) := fn_in X G a33 F33 b33 (ok_law_reach F33 b)
  have C_law_touches : Fn l.prog w K mg base CX0 1 "_law_touches" ["reach", "knot", "others"] (sp_law_touches K) := fn_in X G a34 F34 b34 (ok_law_touches F34 b)
  have C_law_knots : Fn l.prog w K mg base CX0 2 "_law_knots" ["reach"] (sp_law_knots K) := fn_in X G a35 F35 b35 (ok_law_knots F35 b C_law_touches)
  have C_law_one_each : Fn l.prog w K mg base CX0 1 "_law_one_each" ["kinds", "knot"] (sp_law_one_each K) := fn_in X G a36 F36 b36 (ok_law_one_each F36 b)
  have C_law_sum : Fn l.prog w K mg base CX0 1 "_law_sum" ["left", "right"] (sp_law_sum K) := fn_in X G a37 F37 b37 (ok_law_sum F37 b)
  have C_law_flag : Fn l.prog w K mg base CX0 1 "_law_flag" ["told", "due"] (sp_law_flag K) := fn_in X G a38 F38 b38 (ok_law_flag F38 b)
  have C_law_number : Fn l.prog w K mg base CX0 2 "_law_number" ["told", "due"] (sp_law_number K) := fn_in X G a39 F39 b39 (ok_law_number F39 b C_law_whole)
  have C_law_same_rowT : Fn l.prog w K mg base CX0 2 "_law_same_row" ["told", "due"] (sp_law_same_rowT K) := fn_in X G a40 F40 b40 (ok_law_same_rowT F40 b C_law_whole)
  have C_law_same_rowL : Fn l.prog w K mg base CX0 2 "_law_same_row" ["told", "due"] (sp_law_same_rowL K) := fn_in X G a40 F40 b40 (ok_law_same_rowL F40 b C_law_whole)
  have C_law_same_rowsT : Fn l.prog w K mg base CX0 3 "_law_same_rows" ["told", "due"] (sp_law_same_rowsT K) := fn_in X G a41 F41 b41 (ok_law_same_rowsT F41 b C_law_same_rowT)
  have C_law_same_rowsL : Fn l.prog w K mg base CX0 3 "_law_same_rows" ["told", "due"] (sp_law_same_rowsL K) := fn_in X G a41 F41 b41 (ok_law_same_rowsL F41 b C_law_same_rowT)
  have C_law_broad : Fn l.prog w K mg base CX0 1 "_law_broad" ["kinds", "row", "limit"] (sp_law_broad K) := fn_in X G a42 F42 b42 (ok_law_broad F42 b)
  have C_law_drawn : Fn l.prog w K mg base CX0 3 "_law_drawn" ["script"] (sp_law_drawn K) := fn_in X G a43 F43 b43 (ok_law_drawn F43 b C_law_digits C_law_cell C_law_book_sizes C_law_book C_law_tower_sizes C_law_tower C_law_broad C_law_knit C_law_order C_law_renumbered)
  have C_law_picked : Fn l.prog w K mg base CX0 1 "_law_picked" ["many", "row"] (sp_law_picked K) := fn_in X G a44 F44 b44 (ok_law_picked F44 b)
  have C_law_singles_are : Fn l.prog w K mg base CX0 6 "_law_singles_are" ["book", "kinds", "due", "picks", "spots"] (sp_law_singles_are K ADBook) := fn_in X G a45 F45 b45 (ok_law_singles_are F45 b C_law_flag C_law_number C_law_one_each Cis_line Cknot_of)
  exact oklaw clsBook naBook_kinds insBook F46 b C_law_digits C_law_cell C_law_drawn CBook CAdd C_law_sum C_law_reach C_law_knots Cknots Cpassing_kinds C_law_same_rowL C_law_same_rowsT C_law_same_rowsL C_law_picked C_law_singles_are
theorem walk {l : PySem.W.OpenLaw} {q : Program} {loose : List Str} {XP : (Str → Option Value) → Heap → Prop} {YP : World → Heap → Prop} {d : DefRec} {K : Params → PySem.W.Frag} (hn : l.most = some 63) (hdf : d.params.defaults = [])
    (hY : ∀ (w : World) (h : Heap), YP w h → (K w.params).In h)
    (F : ∀ (w : World) (mg : Str → Option Value) (fa : Addr) (h : Heap), (K w.params).In h → h.Ns mainGlobals mg → mg d.name = some (.ref fa) →
      ∃ fd : FuncData, (∀ (s : Shared) (u : Value), BindsTo s fd ⟨[u], []⟩ [("script", u)]) ∧ ∀ base : Heap, (K w.params).In base → base.Ns mainGlobals mg → FnOk l.prog w (K w.params) mg base CX0 8 fa fd ["script"] (splaw (K w.params))) :
    PySem.W.WalkO q loose XP YP l.row.toRowW d [] (fun f vs => PySem.call f vs) :=
  L2.walk_of (n := 63) (k := 8) (x := "script") (CX := fun _ => CX0) (sp := fun w => splaw (K w.params)) hn (by decide) hdf ⟨rfl, by decide, by decide⟩ hY F (fun w H a ns hl m hS => law_sp hl hS) fun _ _ _ _ _ z => z
end Ea

open PySem PySem.W PyProof.Rows in
set_option maxRecDepth 100000 in
set_option maxHeartbeats 0 in
theorem PySem.Challenge.cw_endsalike_k07_knots_from_below_holds : PySem.Challenge.rw_endsalike_k07_knots_from_below.Holds := by
  w_on; o_law; k_head; (case hw => w_witness2)
  k_fill
  refine Ea.walk (l := PySem.Challenge.rw_endsalike_k07_knots_from_below) rfl rfl (fun w h Y => PySem.W.kIn_of Y) ?F
  case F =>
    intro w mg fa h KX G hmg
    refine' Ea.all_mk KX G hmg ?aDBook ?a0 ?l0 ?c0 ?k0 ?a1 ?l1 ?c1 ?k1 ?a2 ?l2 ?c2 ?k2 ?a3 ?i3 ?l3 ?c3 ?k3 ?a4 ?l4 ?c4 ?k4 ?a5 ?i5 ?l5 ?c5 ?k5 ?a6 ?l6 ?c6 ?k6 ?a7 ?l7 ?c7 ?k7 ?a8 ?l8 ?c8 ?k8 ?a9 ?l9 ?c9 ?k9 ?a10 ?l10 ?c10 ?k10 ?a11 ?l11 ?c11 ?k11 ?a12 ?l12 ?c12 ?k12 ?a13 ?l13 ?c13 ?k13 ?a14 ?l14 ?c14 ?k14 ?a15 ?l15 ?c15 ?k15 ?a16 ?l16 ?c16 ?k16 ?a17 ?l17 ?c17 ?k17 ?a18 ?l18 ?c18 ?k18 ?a19 ?l19 ?c19 ?k19 ?a20 ?l20 ?c20 ?k20 ?a21 ?l21 ?c21 ?k21 ?a22 ?l22 ?c22 ?k22 ?a23 ?l23 ?c23 ?k23 ?a24 ?l24 ?c24 ?k24 ?a25 ?l25 ?c25 ?k25 ?a26 ?l26 ?c26 ?k26 ?a27 ?l27 ?c27 ?k27 ?a28 ?l28 ?c28 ?k28 ?a29 ?l29 ?c29 ?k29 ?a30 ?l30 ?c30 ?k30 ?a31 ?l31 ?c31 ?k31 ?a32 ?l32 ?c32 ?k32 ?a33 ?l33 ?c33 ?k33 ?a34 ?l34 ?c34 ?k34 ?a35 ?l35 ?c35 ?k35 ?a36 ?l36 ?c36 ?k36 ?a37 ?l37 ?c37 ?k37 ?a38 ?l38 ?c38 ?k38 ?a39 ?l39 ?c39 ?k39 ?a40 ?l40 ?c40 ?k40 ?a41 ?l41 ?c41 ?k41 ?a42 ?l42 ?c42 ?k42 ?a43 ?l43 ?c43 ?k43 ?a44 ?l44 ?c44 ?k44 ?a45 ?l45 ?c45 ?k45 ?a46 ?l46 ?c46 ?k46 ?pgBook ?hdBook ?poBook ?saBook ?mkBook ?kcBook ?xaBook ?xnBook ?xtBook ?xmBook ?sfBook ?naBook_kinds ?z_len ?z_int ?z_min ?z_max ?z_range ?z_list ?z_tuple ?z_isinstance ?z_str ?z_bool ?z_sum ?z_sorted ?z_repr ?z_iter ?z_enumerate ?z_zip ?z_reversed ?z_any ?z_all ?z_abs ?z_set ?z_dict ?z_ValueError
    (case aDBook => k_is)
    (case a0 => k_is)
    (case l0 => k_is)
    (case c0 => k_is)
    (case k0 => k_is)
    (case a1 => k_is)
    (case l1 => k_is)
    (case c1 => k_is)
    (case k1 => k_is)
    (case a2 => k_is)
    (case l2 => k_is)
    (case c2 => k_is)
    (case k2 => k_is)
    (case a3 => k_is)
    (case i3 => k_is)
    (case l3 => k_is)
    (case c3 => k_is)
    (case k3 => k_is)
    (case a4 => k_is)
    (case l4 => k_is)
    (case c4 => k_is)
    (case k4 => k_is)
    (case a5 => k_is)
    (case i5 => k_is)
    (case l5 => k_is)
    (case c5 => k_is)
    (case k5 => k_is)
    (case a6 => k_is)
    (case l6 => k_is)
    (case c6 => k_is)
    (case k6 => k_is)
    (case a7 => k_is)
    (case l7 => k_is)
    (case c7 => k_is)
    (case k7 => k_is)
    (case a8 => k_is)
    (case l8 => k_is)
    (case c8 => k_is)
    (case k8 => k_is)
    (case a9 => k_is)
    (case l9 => k_is)
    (case c9 => k_is)
    (case k9 => k_is)
    (case a10 => k_is)
    (case l10 => k_is)
    (case c10 => k_is)
    (case k10 => k_is)
    (case a11 => k_is)
    (case l11 => k_is)
    (case c11 => k_is)
    (case k11 => k_is)
    (case a12 => k_is)
    (case l12 => k_is)
    (case c12 => k_is)
    (case k12 => k_is)
    (case a13 => k_is)
    (case l13 => k_is)
    (case c13 => k_is)
    (case k13 => k_is)
    (case a14 => k_is)
    (case l14 => k_is)
    (case c14 => k_is)
    (case k14 => k_is)
    (case a15 => k_is)
    (case l15 => k_is)
    (case c15 => k_is)
    (case k15 => k_is)
    (case a16 => k_is)
    (case l16 => k_is)
    (case c16 => k_is)
    (case k16 => k_is)
    (case a17 => k_is)
    (case l17 => k_is)
    (case c17 => k_is)
    (case k17 => k_is)
    (case a18 => k_is)
    (case l18 => k_is)
    (case c18 => k_is)
    (case k18 => k_is)
    (case a19 => k_is)
    (case l19 => k_is)
    (case c19 => k_is)
    (case k19 => k_is)
    (case a20 => k_is)
    (case l20 => k_is)
    (case c20 => k_is)
    (case k20 => k_is)
    (case a21 => k_is)
    (case l21 => k_is)
    (case c21 => k_is)
    (case k21 => k_is)
    (case a22 => k_is)
    (case l22 => k_is)
    (case c22 => k_is)
    (case k22 => k_is)
    (case a23 => k_is)
    (case l23 => k_is)
    (case c23 => k_is)
    (case k23 => k_is)
    (case a24 => k_is)
    (case l24 => k_is)
    (case c24 => k_is)
    (case k24 => k_is)
    (case a25 => k_is)
    (case l25 => k_is)
    (case c25 => k_is)
    (case k25 => k_is)
    (case a26 => k_is)
    (case l26 => k_is)
    (case c26 => k_is)
    (case k26 => k_is)
    (case a27 => k_is)
    (case l27 => k_is)
    (case c27 => k_is)
    (case k27 => k_is)
    (case a28 => k_is)
    (case l28 => k_is)
    (case c28 => k_is)
    (case k28 => k_is)
    (case a29 => k_is)
    (case l29 => k_is)
    (case c29 => k_is)
    (case k29 => k_is)
    (case a30 => k_is)
    (case l30 => k_is)
    (case c30 => k_is)
    (case k30 => k_is)
    (case a31 => k_is)
    (case l31 => k_is)
    (case c31 => k_is)
    (case k31 => k_is)
    (case a32 => k_is)
    (case l32 => k_is)
    (case c32 => k_is)
    (case k32 => k_is)
    (case a33 => k_is)
    (case l33 => k_is)
    (case c33 => k_is)
    (case k33 => k_is)
    (case a34 => k_is)
    (case l34 => k_is)
    (case c34 => k_is)
    (case k34 => k_is)
    (case a35 => k_is)
    (case l35 => k_is)
    (case c35 => k_is)
    (case k35 => k_is)
    (case a36 => k_is)
    (case l36 => k_is)
    (case c36 => k_is)
    (case k36 => k_is)
    (case a37 => k_is)
    (case l37 => k_is)
    (case c37 => k_is)
    (case k37 => k_is)
    (case a38 => k_is)
    (case l38 => k_is)
    (case c38 => k_is)
    (case k38 => k_is)
    (case a39 => k_is)
    (case l39 => k_is)
    (case c39 => k_is)
    (case k39 => k_is)
    (case a40 => k_is)
    (case l40 => k_is)
    (case c40 => k_is)
    (case k40 => k_is)
    (case a41 => k_is)
    (case l41 => k_is)
    (case c41 => k_is)
    (case k41 => k_is)
    (case a42 => k_is)
    (case l42 => k_is)
    (case c42 => k_is)
    (case k42 => k_is)
    (case a43 => k_is)
    (case l43 => k_is)
    (case c43 => k_is)
    (case k43 => k_is)
    (case a44 => k_is)
    (case l44 => k_is)
    (case c44 => k_is)
    (case k44 => k_is)
    (case a45 => k_is)
    (case l45 => k_is)
    (case c45 => k_is)
    (case k45 => k_is)
    (case a46 => k_is)
    (case l46 => k_is)
    (case c46 => k_is)
    (case k46 => k_is)
    (case pgBook => k_is)
    (case hdBook => k_is)
    (case poBook => k_is)
    (case saBook => k_is)
    (case mkBook => k_is)
    (case kcBook => k_is)
    (case xaBook => k_is)
    (case xnBook => k_is)
    (case xtBook => k_is)
    (case xmBook => k_is)
    (case sfBook => k_is)
    (case naBook_kinds => k_is)
    (case z_len => k_is)
    (case z_int => k_is)
    (case z_min => k_is)
    (case z_max => k_is)
    (case z_range => k_is)
    (case z_list => k_is)
    (case z_tuple => k_is)
    (case z_isinstance => k_is)
    (case z_str => k_is)
    (case z_bool => k_is)
    (case z_sum => k_is)
    (case z_sorted => k_is)
    (case z_repr => k_is)
    (case z_iter => k_is)
    (case z_enumerate => k_is)
    (case z_zip => k_is)
    (case z_reversed => k_is)
    (case z_any => k_is)
    (case z_all => k_is)
    (case z_abs => k_is)
    (case z_set => k_is)
    (case z_dict => k_is)
    (case z_ValueError => k_is)
#print axioms PySem.Challenge.cw_endsalike_k07_knots_from_below_holds
