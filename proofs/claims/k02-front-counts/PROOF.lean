import PyProof.Rows.All
import Wide.All
import OpenK.AllK
import Wide.FinOn
import HandS.ForMost
import HandS.ForExc
import HandS.IsInst
import HandS.Flow
import HandS.Wide
import HandS.TupAny
import HandS.Defaults
import HandS.MakeKwOnly
import PySem.Challenge.RW_endsalike_k02_front_counts
set_option Elab.async false
set_option linter.all false
set_option maxRecDepth 100000
set_option maxHeartbeats 1000000
/-! A typed layer over HandS: what a piece of code is worth in a context of typed slots; heaps are hidden. -/
namespace TL
open PySem L2

abbrev Fg := PySem.W.Frag

/-! ### readings as they are -/
def wE (X : Cx) (e : Expr) : TE := fun σ H Q => ∃ te, PE X e te ∧ te σ H Q
def wT (X : Cx) (e : Expr) : TT := fun σ H Q => ∃ te, PT X e te ∧ te σ H Q
def wA (X : Cx) (es : List Expr) : TA := fun σ H Q => ∃ te, PA X es te ∧ te σ H Q
def w1 (X : Cx) (st : Stmt) : TS := fun D σ H => ∃ t, PS X st t ∧ t D σ H
def wS (X : Cx) (sts : List Stmt) : TS := fun D σ H => ∃ t, PSs X sts t ∧ t D σ H
theorem pe_w {X : Cx} {e : Expr} : PE X e (wE X e) := ⟨fun pins s σ H Q I ⟨_, p, h⟩ => p.run pins s σ H Q I h⟩
theorem pt_w {X : Cx} {e : Expr} : PT X e (wT X e) := ⟨fun pins s σ H Q I ⟨_, p, h⟩ => p.run pins s σ H Q I h⟩
theorem pa_w {X : Cx} {es : List Expr} : PA X es (wA X es) := ⟨fun pos pins s σ H Q I ⟨_, p, h⟩ => p.run pos pins s σ H Q I h⟩
theorem ps_w {X : Cx} {st : Stmt} : PS X st (w1 X st) := ⟨fun pins s σ H D I ⟨_, p, h⟩ => p.run pins s σ H D I h⟩
theorem pss_w {X : Cx} {sts : List Stmt} : PSs X sts (wS X sts) := ⟨fun pins s σ H D I ⟨_, p, h⟩ => p.run pins s σ H D I h⟩

/-! ### heaps: H what stands, M ⊆ H what is frozen -/
structure Nx (M H M' H' : Hp) : Prop where
  ex : Same H H'
  vx : Same M M'
  sub : Same M' H'
  fr : ∀ a, M a = none → H a ≠ none → M' a = none
theorem Nx.refl {M H : Hp} (h : Same M H) : Nx M H M H := ⟨Same.refl _, Same.refl _, h, fun _ q _ => q⟩
theorem Nx.trans {M H M1 H1 M2 H2 : Hp} (a : Nx M H M1 H1) (b : Nx M1 H1 M2 H2) : Nx M H M2 H2 :=
  ⟨a.ex.trans b.ex, a.vx.trans b.vx, b.sub, fun x h q => b.fr x (a.fr x h q) fun z => by
    cases e : H x with
    | none => exact q e
    | some o => rw [a.ex x o e] at z; cases z⟩
theorem same_new {H : Hp} {p : Addr} {o : HO} (h : H p = none) : Same H (upd H p o) := fun a u e => by
  rw [upd_ne (ne_of_none e h)]; exact e
theorem same_updB {M H : Hp} {p : Addr} {o : HO} (h : Same M H) (hp : H p = none) : Same (upd M p o) (upd H p o) := fun a u e => by
  by_cases z : a = p
  · subst z; rw [upd_same] at e ⊢; exact e
  · rw [upd_ne z] at e ⊢; exact h a u e
theorem same_none {M H : Hp} (h : Same M H) {p : Addr} (hp : H p = none) : M p = none := h.free hp
theorem Nx.new {M H : Hp} (h : Same M H) {p : Addr} {o : HO} (hp : H p = none) : Nx M H (upd M p o) (upd H p o) :=
  ⟨same_new hp, same_new (same_none h hp), same_updB h hp, fun a e q => by
    rw [upd_ne (fun z => q (by rw [z]; exact hp))]; exact e⟩

/-! ### types -/
structure Ty (α : Type) where
  rep : Fg → Hp → V → α → Prop
  ext : ∀ {K : Fg} {M M' : Hp} {v : V} {x : α}, Same M M' → rep K M v x → rep K M' v x
theorem paired_imp {α β : Type} {F G : α → β → Prop} (f : ∀ a b, F a b → G a b) : ∀ {l₁ : List α} {l₂ : List β}, Paired F l₁ l₂ → Paired G l₁ l₂
  | _, _, .nil => .nil
  | _, _, .cons h t => .cons (f _ _ h) (paired_imp f t)
theorem paired_get {α β : Type} {F : α → β → Prop} : ∀ {l₁ : List α} {l₂ : List β} {i : Nat} {b : β}, Paired F l₁ l₂ → l₂[i]? = some b → ∃ a, l₁[i]? = some a ∧ F a b
  | _, _, _, _, .nil, e => by simp at e
  | _, _, 0, _, .cons r _, e => by simp at e; subst e; exact ⟨_, rfl, r⟩
  | _, _, i + 1, x, .cons _ t, e => by
    obtain ⟨u, h1, h2⟩ := paired_get (i := i) (b := x) t (by simpa using e)
    exact ⟨u, by simpa using h1, h2⟩
theorem paired_get' {α β : Type} {F : α → β → Prop} : ∀ {l₁ : List α} {l₂ : List β} {i : Nat} {a : α}, Paired F l₁ l₂ → l₁[i]? = some a → ∃ b, l₂[i]? = some b ∧ F a b
  | _, _, _, _, .nil, e => by simp at e
  | _, _, 0, _, .cons r _, e => by simp at e; subst e; exact ⟨_, rfl, r⟩
  | _, _, i + 1, x, .cons _ t, e => by
    obtain ⟨u, h1, h2⟩ := paired_get' (i := i) (a := x) t (by simpa using e)
    exact ⟨u, by simpa using h1, h2⟩
theorem paired_app {α β : Type} {F : α → β → Prop} : ∀ {l₁ m₁ : List α} {l₂ m₂ : List β}, Paired F l₁ l₂ → Paired F m₁ m₂ → Paired F (l₁ ++ m₁) (l₂ ++ m₂)
  | _, _, _, _, .nil, h => h
  | _, _, _, _, .cons r t, h => .cons r (paired_app t h)
theorem paired_take {α β : Type} {F : α → β → Prop} : ∀ {l₁ : List α} {l₂ : List β} (n : Nat), Paired F l₁ l₂ → Paired F (l₁.take n) (l₂.take n)
  | _, _, 0, _ => .nil
  | _, _, _ + 1, .nil => .nil
  | _, _, n + 1, .cons r t => .cons r (paired_take n t)
theorem paired_drop {α β : Type} {F : α → β → Prop} : ∀ {l₁ : List α} {l₂ : List β} (n : Nat), Paired F l₁ l₂ → Paired F (l₁.drop n) (l₂.drop n)
  | _, _, 0, h => h
  | _, _, _ + 1, .nil => .nil
  | _, _, n + 1, .cons _ t => paired_drop n t
theorem paired_set {α β : Type} {F : α → β → Prop} {a : α} {b : β} (h : F a b) : ∀ {l₁ : List α} {l₂ : List β} (i : Nat), Paired F l₁ l₂ → Paired F (l₁.set i a) (l₂.set i b)
  | _, _, _, .nil => .nil
  | _, _, 0, .cons _ t => .cons h t
  | _, _, i + 1, .cons q t => .cons q (paired_set h i t)

def tI : Ty Int := ⟨fun _ _ v i => v = .int i, fun _ h => h⟩
def tB : Ty Bool := ⟨fun _ _ v b => v = .bl b, fun _ h => h⟩
def tS : Ty Str := ⟨fun _ _ v s => v = .str s, fun _ h => h⟩
def tN : Ty Unit := ⟨fun _ _ v _ => v = .non, fun _ h => h⟩
theorem rd_ext {M M' : Hp} {a : Addr} {u : HO} (e : Same M M') (h : Rd M a u) : Rd M' a u := by
  rcases h with h | ⟨o, h⟩
  · exact .inl (e _ _ h)
  · exact .inr ⟨o, e _ _ h⟩
theorem sqT_ext {K : Fg} {M M' : Hp} {a : Addr} {xs : List V} (e : Same M M') (h : SqT K M a xs) : SqT K M' a xs := by
  rcases h with h | h
  · exact .inl (rd_ext e h)
  · exact .inr h
theorem sqL_ext {K : Fg} {M M' : Hp} {a : Addr} {xs : List V} (e : Same M M') (h : SqL K M a xs) : SqL K M' a xs := e.seq h
/-- a tuple, a list that is frozen, the script -/
def tTup {α : Type} (t : Ty α) : Ty (List α) := ⟨fun K M v xs => ∃ a vs, v = .ref a ∧ SqT K M a vs ∧ Paired (t.rep K M) vs xs,
  fun e ⟨a, vs, h1, h2, h3⟩ => ⟨a, vs, h1, sqT_ext e h2, paired_imp (fun _ _ q => t.ext e q) h3⟩⟩
def tLst {α : Type} (t : Ty α) : Ty (List α) := ⟨fun K M v xs => ∃ a vs, v = .ref a ∧ M a = some (.lst vs) ∧ Paired (t.rep K M) vs xs,
  fun e ⟨a, vs, h1, h2, h3⟩ => ⟨a, vs, h1, e _ _ h2, paired_imp (fun _ _ q => t.ext e q) h3⟩⟩
def tSq {α : Type} (t : Ty α) : Ty (List α) := ⟨fun K M v xs => ∃ a vs, v = .ref a ∧ SqL K M a vs ∧ Paired (t.rep K M) vs xs,
  fun e ⟨a, vs, h1, h2, h3⟩ => ⟨a, vs, h1, sqL_ext e h2, paired_imp (fun _ _ q => t.ext e q) h3⟩⟩
def tP2 {α β : Type} (s : Ty α) (t : Ty β) : Ty (α × β) := ⟨fun K M v x => ∃ a v1 v2, v = .ref a ∧ SqT K M a [v1, v2] ∧ s.rep K M v1 x.1 ∧ t.rep K M v2 x.2,
  fun e ⟨a, v1, v2, h1, h2, h3, h4⟩ => ⟨a, v1, v2, h1, sqT_ext e h2, s.ext e h3, t.ext e h4⟩⟩
def tP3 {α β γ : Type} (s : Ty α) (t : Ty β) (u : Ty γ) : Ty (α × β × γ) := ⟨fun K M v x => ∃ a v1 v2 v3, v = .ref a ∧ SqT K M a [v1, v2, v3] ∧ s.rep K M v1 x.1 ∧ t.rep K M v2 x.2.1 ∧ u.rep K M v3 x.2.2,
  fun e ⟨a, v1, v2, v3, h1, h2, h3, h4, h5⟩ => ⟨a, v1, v2, v3, h1, sqT_ext e h2, s.ext e h3, t.ext e h4, u.ext e h5⟩⟩
def tP4 {α β γ δ : Type} (s : Ty α) (t : Ty β) (u : Ty γ) (w : Ty δ) : Ty (α × β × γ × δ) := ⟨fun K M v x => ∃ a v1 v2 v3 v4, v = .ref a ∧ SqT K M a [v1, v2, v3, v4] ∧ s.rep K M v1 x.1 ∧ t.rep K M v2 x.2.1 ∧ u.rep K M v3 x.2.2.1 ∧ w.rep K M v4 x.2.2.2,
  fun e ⟨a, v1, v2, v3, v4, h1, h2, h3, h4, h5, h6⟩ => ⟨a, v1, v2, v3, v4, h1, sqT_ext e h2, s.ext e h3, t.ext e h4, u.ext e h5, w.ext e h6⟩⟩
/-- None, or such a one -/
def tO {α : Type} (t : Ty α) : Ty (Option α) := ⟨fun K M v x => match x with | none => v = .non | some y => t.rep K M v y, fun {K M M' v x} e h => by
  cases x with
  | none => exact h
  | some y => exact t.ext e h⟩
mutual
theorem dp_ext {K : Fg} {M M' : Hp} (e : Same M M') : ∀ (d : PyData) (v : V), Dp K M v d → Dp K M' v d
  | .none, _, h => by cases h; exact .non
  | .bool b, _, h => by cases h; exact .bl b
  | .int i, _, h => by cases h; exact .int i
  | .str s, _, h => by cases h; exact .str s
  | .list ds, _, h => by
    cases h with
    | lst h1 h2 => exact .lst (sqL_ext e h1) (dpAll_ext e ds _ h2)
  | .tuple ds, _, h => by
    cases h with
    | tup h1 h2 => exact .tup (sqT_ext e h1) (dpAll_ext e ds _ h2)
  | .dict kvs, _, h => by cases h
theorem dpAll_ext {K : Fg} {M M' : Hp} (e : Same M M') : ∀ (ds : List PyData) (vs : List V), DpAll K M vs ds → DpAll K M' vs ds
  | [], _, h => by cases h; exact .nil
  | d :: ds, _, h => by
    cases h with
    | cons h1 h2 => exact .cons (dp_ext e d _ h1) (dpAll_ext e ds _ h2)
end
/-- data of any shape -/
def tD : Ty PyData := ⟨fun K M v d => Dp K M v d, fun {K M M' v x} e h => dp_ext e x v h⟩

/-! ### slots -/
/-- a typed value -/
structure Cl : Type 1 where
  {α : Type}
  t : Ty α
  x : α
inductive FReps (K : Fg) (M : Hp) : List (Str × V) → List (Str × Cl) → Prop where
  | nil : FReps K M [] []
  | cons {f : Str} {v : V} {c : Cl} {vs : List (Str × V)} {cs : List (Str × Cl)} (h : c.t.rep K M v c.x) (r : FReps K M vs cs) : FReps K M ((f, v) :: vs) ((f, c) :: cs)
theorem freps_ext {K : Fg} {M M' : Hp} (e : Same M M') : ∀ {vs : List (Str × V)} {cs : List (Str × Cl)}, FReps K M vs cs → FReps K M' vs cs
  | _, _, .nil => .nil
  | _, _, .cons h r => .cons (Ty.ext _ e h) (freps_ext e r)
theorem freps_len {K : Fg} {M : Hp} : ∀ {vs : List (Str × V)} {cs : List (Str × Cl)}, FReps K M vs cs → vs.length = cs.length
  | _, _, .nil => rfl
  | _, _, .cons _ r => by simp [freps_len r]
theorem freps_lookup {K : Fg} {M : Hp} {f : Str} {c : Cl} : ∀ {vs : List (Str × V)} {cs : List (Str × Cl)}, FReps K M vs cs → cs.lookup f = some c → ∃ v, vs.lookup f = some v ∧ c.t.rep K M v c.x
  | _, _, .nil, e => by simp at e
  | _, _, .cons (f := g) (v := v) (c := d) h r, e => by
    by_cases z : f = g
    · subst z
      simp [List.lookup] at e
      subst e
      exact ⟨v, by simp [List.lookup], h⟩
    · have z' : (f == g) = false := by simpa using z
      simp only [List.lookup, z'] at e ⊢
      exact freps_lookup r e
theorem freps_none {K : Fg} {M : Hp} {f : Str} : ∀ {vs : List (Str × V)} {cs : List (Str × Cl)}, FReps K M vs cs → cs.lookup f = none → vs.lookup f = none
  | _, _, .nil, e => rfl
  | _, _, .cons (f := g) (v := v) (c := d) h r, e => by
    by_cases z : f = g
    · subst z
      simp [List.lookup] at e
    · have z' : (f == g) = false := by simpa using z
      simp only [List.lookup, z'] at e ⊢
      exact freps_none r e
/-- an instance of the class at C with these fields -/
def tOb {α : Type} (C : Addr) (fs : α → List (Str × Cl)) : Ty α := ⟨fun K M v x => ∃ a dx vs, v = .ref a ∧ M a = some (.ins C dx vs) ∧ FReps K M vs (fs x),
  fun e ⟨a, dx, vs, h1, h2, h3⟩ => ⟨a, dx, vs, h1, e _ _ h2, freps_ext e h3⟩⟩
theorem refs_inj : ∀ {bs cs : List Addr}, bs.map V.ref = cs.map V.ref → bs = cs
  | [], [], _ => rfl
  | [], _ :: _, h => by simp at h
  | _ :: _, [], h => by simp at h
  | b :: bs, c :: cs, h => by
    simp only [List.map_cons, List.cons.injEq, V.ref.injEq] at h
    rw [h.1, refs_inj h.2]
inductive Sl : Type 1 where
  | un
  | vl {α : Type} (t : Ty α) (x : α)
  | ow {α : Type} (t : Ty α) (xs : List α)
  | o2 {α : Type} (t : Ty α) (xss : List (List α))
  | ob (p dx C : Addr) (fs : List (Str × Cl))
def Sl.own : Sl → Bool
  | .ow _ _ => true
  | .o2 _ _ => true
  | .ob _ _ _ _ => true
  | _ => false
def RepS (K : Fg) (M : Hp) (v : V) : Sl → Prop
  | .vl t x => t.rep K M v x
  | _ => False
/-- a list of one's own at a -/
def OwnL (K : Fg) {α : Type} (t : Ty α) (H0 M H : Hp) (a : Addr) (xs : List α) : Prop := H0 a = none ∧ M a = none ∧ ∃ vs, H a = some (.lst vs) ∧ Paired (t.rep K M) vs xs
def Ok1 (K : Fg) (H0 M H : Hp) (o : Option V) (fp : List Addr) : Sl → Prop
  | .un => True
  | .vl t x => ∃ v, o = some v ∧ t.rep K M v x
  | .ow t xs => ∃ a, fp = [a] ∧ o = some (.ref a) ∧ OwnL K t H0 M H a xs
  | .o2 t xss => ∃ a bs, fp = a :: bs ∧ o = some (.ref a) ∧ H0 a = none ∧ M a = none ∧ H a = some (.lst (bs.map V.ref)) ∧ a ∉ bs ∧ bs.Nodup ∧ Paired (OwnL K t H0 M H) bs xss
  | .ob p dx C fs => fp = [p] ∧ o = some (.ref p) ∧ H0 p = none ∧ M p = none ∧ ∃ vs, H p = some (.ins C dx vs) ∧ H dx = some (.own p) ∧ H0 dx = none ∧ M dx = none ∧ FReps K M vs fs
structure St (K : Fg) (M0 H0 M H : Hp) (σ : L2.St) (G : List Sl) : Prop where
  nx : Nx M0 H0 M H
  len : σ.length = G.length
  sl : ∃ A : Nat → List Addr, (∀ i s, G[i]? = some s → ∃ o, σ[i]? = some o ∧ Ok1 K H0 M H o (A i) s) ∧ ∀ i j s t, G[i]? = some s → G[j]? = some t → s.own = true → t.own = true → i ≠ j → ∀ x, x ∈ A i → x ∉ A j
section
variable {K : Fg} {M0 H0 M H M' H' : Hp} {σ : L2.St} {G : List Sl}
theorem OwnL.next {α : Type} {t : Ty α} {a : Addr} {xs : List α} (n : Nx M H M' H') (h : OwnL K t H0 M H a xs) : OwnL K t H0 M' H' a xs := by
  obtain ⟨h0, hm, vs, hh, p⟩ := h
  exact ⟨h0, n.fr a hm (by rw [hh]; simp), vs, n.ex _ _ hh, paired_imp (fun _ _ q => t.ext n.vx q) p⟩
theorem OwnL.keep {α : Type} {t : Ty α} {a : Addr} {xs : List α} (h : OwnL K t H0 M H a xs) (k : H' a = H a) : OwnL K t H0 M H' a xs := by
  obtain ⟨h0, hm, vs, hh, p⟩ := h
  exact ⟨h0, hm, vs, by rw [k]; exact hh, p⟩
theorem OwnL.vw {α : Type} {t : Ty α} {a : Addr} {xs : List α} (h : OwnL K t H0 M H a xs) (m : Same M M') (k : M' a = none) : OwnL K t H0 M' H a xs := by
  obtain ⟨h0, hm, vs, hh, p⟩ := h
  exact ⟨h0, k, vs, hh, paired_imp (fun _ _ q => t.ext m q) p⟩
theorem Ok1.next {o : Option V} {a : List Addr} {s : Sl} (n : Nx M H M' H') (h : Ok1 K H0 M H o a s) : Ok1 K H0 M' H' o a s := by
  cases s with
  | un => trivial
  | vl t x => obtain ⟨v, e, r⟩ := h; exact ⟨v, e, t.ext n.vx r⟩
  | ow t xs => obtain ⟨b, f, e, r⟩ := h; exact ⟨b, f, e, r.next n⟩
  | o2 t xss =>
    obtain ⟨b, bs, f, e, h0, hm, hh, q1, q2, p⟩ := h
    exact ⟨b, bs, f, e, h0, n.fr b hm (by rw [hh]; simp), n.ex _ _ hh, q1, q2, paired_imp (fun _ _ r => r.next n) p⟩
  | ob p dx C fs =>
    obtain ⟨ea, e, h0, hm, vs, hh, hd, h0d, md, q⟩ := h
    exact ⟨ea, e, h0, n.fr p hm (by rw [hh]; simp), vs, n.ex _ _ hh, n.ex _ _ hd, h0d, n.fr dx md (by rw [hd]; simp), freps_ext n.vx q⟩
/-- the heap changes elsewhere -/
theorem Ok1.keep {o : Option V} {a : List Addr} {s : Sl} (h : Ok1 K H0 M H o a s) (k : ∀ x ∈ a, H' x = H x) (kd : ∀ d p, H d = some (.own p) → H' d = some (.own p)) : Ok1 K H0 M H' o a s := by
  cases s with
  | un => trivial
  | vl t x => exact h
  | ow t xs => obtain ⟨b, rfl, e, r⟩ := h; exact ⟨b, rfl, e, r.keep (k b (by simp))⟩
  | o2 t xss =>
    obtain ⟨b, bs, rfl, e, h0, hm, hh, q1, q2, p⟩ := h
    refine ⟨b, bs, rfl, e, h0, hm, by rw [k b (by simp)]; exact hh, q1, q2, ?_⟩
    have key : ∀ {bs : List Addr} {xss}, (∀ x ∈ bs, H' x = H x) → Paired (OwnL K t H0 M H) bs xss → Paired (OwnL K t H0 M H') bs xss := by
      intro bs xss kk pp
      induction pp with
      | nil => exact .nil
      | cons r _ ih => exact .cons (r.keep (kk _ (by simp))) (ih fun x hx => kk x (by simp [hx]))
    exact key (fun x hx => k x (by simp [hx])) p
  | ob p dx C fs =>
    obtain ⟨rfl, e, h0, hm, vs, hh, hd, h0d, md, q⟩ := h
    exact ⟨rfl, e, h0, hm, vs, by rw [k p (by simp)]; exact hh, kd _ _ hd, h0d, md, q⟩
/-- the view grows elsewhere -/
theorem Ok1.vw {o : Option V} {a : List Addr} {s : Sl} (h : Ok1 K H0 M H o a s) (m : Same M M') (k : ∀ x ∈ a, M' x = none) (kd : ∀ d p, H d = some (.own p) → M d = none → M' d = none) : Ok1 K H0 M' H o a s := by
  cases s with
  | un => trivial
  | vl t x => obtain ⟨v, e, r⟩ := h; exact ⟨v, e, t.ext m r⟩
  | ow t xs => obtain ⟨b, rfl, e, r⟩ := h; exact ⟨b, rfl, e, r.vw m (k b (by simp))⟩
  | o2 t xss =>
    obtain ⟨b, bs, rfl, e, h0, hm, hh, q1, q2, p⟩ := h
    refine ⟨b, bs, rfl, e, h0, k b (by simp), hh, q1, q2, ?_⟩
    have key : ∀ {bs : List Addr} {xss}, (∀ x ∈ bs, M' x = none) → Paired (OwnL K t H0 M H) bs xss → Paired (OwnL K t H0 M' H) bs xss := by
      intro bs xss kk pp
      induction pp with
      | nil => exact .nil
      | cons r _ ih => exact .cons (r.vw m (kk _ (by simp))) (ih fun x hx => kk x (by simp [hx]))
    exact key (fun x hx => k x (by simp [hx])) p
  | ob p dx C fs =>
    obtain ⟨rfl, e, h0, hm, vs, hh, hd, h0d, md, q⟩ := h
    exact ⟨rfl, e, h0, k p (by simp), vs, hh, hd, h0d, kd _ _ hd md, freps_ext m q⟩
/-- what stands at an own slot's addresses -/
theorem Ok1.there {o : Option V} {a : List Addr} {s : Sl} (h : Ok1 K H0 M H o a s) (ho : s.own = true) : ∀ x ∈ a, H0 x = none ∧ M x = none ∧ ((∃ vs, H x = some (.lst vs)) ∨ ∃ C dx vs, H x = some (.ins C dx vs)) := by
  cases s with
  | un => cases ho
  | vl t x => cases ho
  | ow t xs =>
    obtain ⟨b, rfl, e, h0, hm, vs, hh, p⟩ := h
    intro x hx
    rw [List.mem_singleton.mp hx]; exact ⟨h0, hm, .inl ⟨vs, hh⟩⟩
  | o2 t xss =>
    obtain ⟨b, bs, rfl, e, h0, hm, hh, q1, q2, p⟩ := h
    intro x hx
    rcases List.mem_cons.mp hx with rfl | hx
    · exact ⟨h0, hm, .inl ⟨_, hh⟩⟩
    · obtain ⟨i, hi⟩ := List.getElem?_of_mem hx
      obtain ⟨xs, _, h0, hm, vs, hh, _⟩ := paired_get' p hi
      exact ⟨h0, hm, .inl ⟨vs, hh⟩⟩
  | ob p dx C fs =>
    obtain ⟨rfl, e, h0, hm, vs, hh, hd, h0d, md, q⟩ := h
    intro x hx
    rw [List.mem_singleton.mp hx]; exact ⟨h0, hm, .inr ⟨C, dx, vs, hh⟩⟩
theorem St.next (S : St K M0 H0 M H σ G) (n : Nx M H M' H') : St K M0 H0 M' H' σ G := by
  obtain ⟨A, h1, h2⟩ := S.sl
  exact ⟨S.nx.trans n, S.len, A, fun i s e => by
    obtain ⟨o, q, r⟩ := h1 i s e
    exact ⟨o, q, r.next n⟩, h2⟩
theorem St.sub (S : St K M0 H0 M H σ G) : Same M H := S.nx.sub
theorem St.get {α : Type} {t : Ty α} {x : α} {i : Nat} (S : St K M0 H0 M H σ G) (h : G[i]? = some (.vl t x)) : ∃ v, σ[i]? = some (some v) ∧ t.rep K M v x := by
  obtain ⟨A, h1, _⟩ := S.sl
  obtain ⟨o, q, v, e, r⟩ := h1 i _ h
  exact ⟨v, by rw [q, e], r⟩
/-- THE CHANGE of one slot: i gets s with the footprint fp, the value o -/
theorem St.change {s : Sl} {i : Nat} {o : Option V} {fp : List Addr} (S : St K M0 H0 M H σ G) (n : Nx M0 H0 M' H') (ho : s.own = true → ∀ (A : Nat → List Addr), (∀ i s, G[i]? = some s → ∃ o, σ[i]? = some o ∧ Ok1 K H0 M H o (A i) s) →
      (∀ i j s t, G[i]? = some s → G[j]? = some t → s.own = true → t.own = true → i ≠ j → ∀ x, x ∈ A i → x ∉ A j) → ∀ j t, j ≠ i → G[j]? = some t → t.own = true → ∀ x ∈ A j, x ∉ fp)
    (hk : ∀ (A : Nat → List Addr), (∀ i s, G[i]? = some s → ∃ o, σ[i]? = some o ∧ Ok1 K H0 M H o (A i) s) → (∀ i j s t, G[i]? = some s → G[j]? = some t → s.own = true → t.own = true → i ≠ j → ∀ x, x ∈ A i → x ∉ A j) →
      ∀ j t o', j ≠ i → G[j]? = some t → Ok1 K H0 M H o' (A j) t → Ok1 K H0 M' H' o' (A j) t) (hs : Ok1 K H0 M' H' o fp s) : St K M0 H0 M' H' (σ.set i o) (G.set i s) := by
  obtain ⟨A, h1, h2⟩ := S.sl
  refine ⟨n, by rw [List.length_set, List.length_set]; exact S.len, fun j => if j = i then fp else A j, fun j u e => ?_, fun j k u w e1 e2 o1 o2 ne x hx => ?_⟩
  · by_cases z : i = j
    · subst z
      have hl : i < G.length := by
        have := (List.getElem?_eq_some_iff.mp e).1
        rwa [List.length_set] at this
      rw [List.getElem?_set_self hl] at e
      cases e
      refine ⟨o, List.getElem?_set_self (by rw [S.len]; exact hl), ?_⟩
      show Ok1 K H0 M' H' o (if i = i then fp else A i) _
      rw [if_pos rfl]; exact hs
    · rw [List.getElem?_set_ne z] at e
      rw [List.getElem?_set_ne z]
      obtain ⟨o', q, r⟩ := h1 j u e
      refine ⟨o', q, ?_⟩
      show Ok1 K H0 M' H' o' (if j = i then fp else A j) _
      rw [if_neg (Ne.symm z)]
      exact hk A h1 h2 j u o' (Ne.symm z) e r
  · have hx' : x ∈ (if j = i then fp else A j) := hx
    show x ∉ (if k = i then fp else A k)
    by_cases zj : j = i
    · by_cases zk : k = i
      · exact absurd (zj.trans zk.symm) ne
      · rw [if_pos zj] at hx'
        rw [if_neg zk]
        rw [List.getElem?_set_ne (Ne.symm zk)] at e2
        have hj : G[i]? = some (G[i]?.getD .un) ∨ G[i]? = none := by
          cases q : G[i]? with
          | none => exact .inr rfl
          | some u => exact .inl rfl
        have hl : i < G.length := by
          have := (List.getElem?_eq_some_iff.mp e1).1
          rw [List.length_set, zj] at this; exact this
        rw [zj, List.getElem?_set_self hl] at e1
        cases e1
        intro hk'
        exact ho o1 A h1 h2 k w zk e2 o2 x hk' hx'
    · rw [if_neg zj] at hx'
      rw [List.getElem?_set_ne (Ne.symm zj)] at e1
      by_cases zk : k = i
      · rw [if_pos zk]
        have hl : i < G.length := by
          have := (List.getElem?_eq_some_iff.mp e2).1
          rw [List.length_set, zk] at this; exact this
        rw [zk, List.getElem?_set_self hl] at e2
        cases e2
        exact ho o2 A h1 h2 j u zj e1 o1 x hx'
      · rw [if_neg zk]
        rw [List.getElem?_set_ne (Ne.symm zk)] at e2
        exact h2 j k u w e1 e2 o1 o2 ne x hx'
/-- a slot is stored -/
theorem St.set {s : Sl} {i : Nat} {v : V} (S : St K M0 H0 M H σ G) (hr : RepS K M v s) : St K M0 H0 M H (σ.set i (some v)) (G.set i s) := by
  have no : s.own = false := by cases s <;> first | rfl | exact hr.elim
  refine S.change (fp := []) S.nx (fun h => by rw [no] at h; cases h) (fun _ _ _ _ _ _ _ _ r => r) ?_
  cases s with
  | vl t x => exact ⟨v, rfl, hr⟩
  | un => trivial
  | ow t xs => exact hr.elim
  | o2 t xs => exact hr.elim
  | ob p dx C fs => exact hr.elim
/-- a slot is forgotten, its value too -/
theorem St.drop {i : Nat} (S : St K M0 H0 M H σ G) : St K M0 H0 M H (σ.set i none) (G.set i .un) :=
  S.change (fp := []) S.nx (fun h => by cases h) (fun _ _ _ _ _ _ _ _ r => r) trivial
/-- a new list of its own: at p, not frozen -/
theorem St.setOwn {α : Type} {t : Ty α} {xs : List α} {vs : List V} {i : Nat} {p : Addr} (S : St K M0 H0 M H σ G) (n : Nx M H M' H') (hp : H p = none) (mp : M' p = none) (hH : H' p = some (.lst vs)) (hr : Paired (t.rep K M') vs xs) :
    St K M0 H0 M' H' (σ.set i (some (.ref p))) (G.set i (.ow t xs)) := by
  have h0p : H0 p = none := S.nx.ex.free hp
  refine S.change (fp := [p]) (S.nx.trans n) (fun _ A h1 _ j t' _ e o x hx hx2 => ?_) (fun _ _ _ _ _ _ _ _ r => r.next n) ⟨p, rfl, rfl, h0p, mp, vs, hH, hr⟩
  obtain ⟨_, _, r⟩ := h1 j t' e
  obtain ⟨_, _, q⟩ := r.there o x hx
  rw [List.mem_singleton.mp hx2, hp] at q
  rcases q with ⟨_, q⟩ | ⟨_, _, _, q⟩ <;> cases q
theorem own_upd {a : Addr} {u o : HO} (hh : H a = some u) (hu : ∀ p, u ≠ .own p) : ∀ d p, H d = some (.own p) → upd H a o d = some (.own p) := fun d p e => by
  rw [upd_ne (ne_of e hh (fun q => hu p q.symm))]; exact e
theorem St.value (S : St K M0 H0 M H σ G) {i : Nat} {o : Option V} (h : σ[i]? = some o) : σ.set i o = σ := by
  apply List.ext_getElem?
  intro j
  by_cases hj : i = j
  · subst hj
    rw [List.getElem?_set_self (List.getElem?_eq_some_iff.mp h).1, h]
  · rw [List.getElem?_set_ne hj]
theorem nx_upd {a : Addr} {o : HO} (n : Nx M0 H0 M H) (h0 : H0 a = none) (hm : M a = none) : Nx M0 H0 M (upd H a o) :=
  ⟨fun b u e => by rw [upd_ne (ne_of_none e h0)]; exact n.ex b u e, n.vx, fun b u e => by rw [upd_ne (ne_of_none e hm)]; exact n.sub b u e, n.fr⟩
/-- a list of one's own is changed -/
theorem St.putOwn {α : Type} {t : Ty α} {xs ys : List α} {i : Nat} (S : St K M0 H0 M H σ G) (h : G[i]? = some (.ow t xs)) :
    ∃ a vs, σ[i]? = some (some (.ref a)) ∧ H a = some (.lst vs) ∧ M a = none ∧ Paired (t.rep K M) vs xs ∧ ∀ ws, Paired (t.rep K M) ws ys → St K M0 H0 M (upd H a (.lst ws)) σ (G.set i (.ow t ys)) := by
  obtain ⟨A0, h10, h20⟩ := S.sl
  obtain ⟨o, q, a, ef, e, h0, hm, vs, hh, p⟩ := h10 i _ h
  subst e
  refine ⟨a, vs, q, hh, hm, p, fun ws pw => ?_⟩
  rw [← S.value q]
  refine S.change (fp := [a]) (nx_upd S.nx h0 hm) (fun _ A h1 h2 j t' nj e' o' x hx hx2 => ?_) (fun A h1 h2 j t' o' nj e' r => ?_) ⟨a, rfl, rfl, h0, hm, ws, upd_same, pw⟩
  · obtain ⟨o2, q2, a2, ef2, e2, _⟩ := h1 i _ h
    rw [q] at q2; cases q2; cases e2
    exact h2 j i _ _ e' h o' rfl nj x hx (by rw [ef2]; exact hx2)
  · by_cases ho : t'.own = true
    · obtain ⟨o2, q2, a2, ef2, e2, _⟩ := h1 i _ h
      rw [q] at q2; cases q2; cases e2
      exact r.keep (fun x hx => upd_ne (fun z => h2 j i _ _ e' h ho rfl nj x hx (by rw [ef2, z]; simp))) (own_upd hh (fun _ => by simp))
    · cases t' with
      | un => trivial
      | vl t x => exact r
      | ow _ _ => exact absurd rfl ho
      | o2 _ _ => exact absurd rfl ho
      | ob _ _ _ _ => exact absurd rfl ho
/-- an object of one's own gets a field -/
theorem St.putOb {p dx C : Addr} {fs fs' : List (Str × Cl)} {i : Nat} (S : St K M0 H0 M H σ G) (h : G[i]? = some (.ob p dx C fs)) :
    ∃ vs, σ[i]? = some (some (.ref p)) ∧ H p = some (.ins C dx vs) ∧ M p = none ∧ FReps K M vs fs ∧ ∀ ws, FReps K M ws fs' → St K M0 H0 M (upd H p (.ins C dx ws)) σ (G.set i (.ob p dx C fs')) := by
  obtain ⟨A0, h10, h20⟩ := S.sl
  obtain ⟨o, q, ef, e, h0, hm, vs, hh, hd, h0d, md, pr⟩ := h10 i _ h
  subst e
  refine ⟨vs, q, hh, hm, pr, fun ws pw => ?_⟩
  rw [← S.value q]
  refine S.change (fp := [p]) (nx_upd S.nx h0 hm) (fun _ A h1 h2 j t' nj e' o' x hx hx2 => ?_) (fun A h1 h2 j t' o' nj e' r => ?_) ⟨rfl, rfl, h0, hm, ws, upd_same, own_upd hh (fun _ => by simp) _ _ hd, h0d, md, pw⟩
  · obtain ⟨o2, q2, ef2, _⟩ := h1 i _ h
    exact h2 j i _ _ e' h o' rfl nj x hx (by rw [ef2]; exact hx2)
  · by_cases ho : t'.own = true
    · obtain ⟨o2, q2, ef2, _⟩ := h1 i _ h
      exact r.keep (fun x hx => upd_ne (fun z => h2 j i _ _ e' h ho rfl nj x hx (by rw [ef2, z]; simp))) (own_upd hh (fun _ => by simp))
    · cases t' with
      | un => trivial
      | vl t x => exact r
      | ow _ _ => exact absurd rfl ho
      | o2 _ _ => exact absurd rfl ho
      | ob _ _ _ _ => exact absurd rfl ho
/-- .. what is known of it at the end -/
theorem St.getOb {p dx C : Addr} {fs : List (Str × Cl)} {i : Nat} (S : St K M0 H0 M H σ G) (h : G[i]? = some (.ob p dx C fs)) :
    ∃ vs, σ[i]? = some (some (.ref p)) ∧ H p = some (.ins C dx vs) ∧ H dx = some (.own p) ∧ M p = none ∧ M dx = none ∧ FReps K M vs fs := by
  obtain ⟨A, h1, h2⟩ := S.sl
  obtain ⟨o, q, ea, e, h0, hm, vs, hh, hd, h0d, md, pr⟩ := h1 i _ h
  exact ⟨vs, by rw [q, e], hh, hd, hm, md, pr⟩
/-- a list of one's own is frozen -/
theorem St.freeze {α : Type} {t : Ty α} {xs : List α} {i : Nat} (S : St K M0 H0 M H σ G) (h : G[i]? = some (.ow t xs)) :
    ∃ a vs, H a = some (.lst vs) ∧ M a = none ∧ H0 a = none ∧ St K M0 H0 (upd M a (.lst vs)) H σ (G.set i (.vl (tLst t) xs)) := by
  obtain ⟨A0, h10, h20⟩ := S.sl
  obtain ⟨o, q, a, ef, e, h0, hm, vs, hh, p⟩ := h10 i _ h
  subst e
  have mm : Same M (upd M a (.lst vs)) := same_new hm
  refine ⟨a, vs, hh, hm, h0, ?_⟩
  rw [← S.value q]
  refine S.change (fp := []) ⟨S.nx.ex, S.nx.vx.trans mm, fun b u e => ?_, fun b n1 n2 => ?_⟩ (fun h => by cases h) (fun A h1 h2 j t' o' nj e' r => ?_) ⟨.ref a, rfl, a, vs, rfl, upd_same, paired_imp (fun _ _ r => t.ext mm r) p⟩
  · by_cases z : b = a
    · subst z; rw [upd_same] at e; cases e; exact hh
    · rw [upd_ne z] at e; exact S.sub b u e
  · rw [upd_ne (fun z => n2 (by rw [z]; exact h0))]; exact S.nx.fr b n1 n2
  · by_cases ho : t'.own = true
    · obtain ⟨o2, q2, a2, ef2, e2, _⟩ := h1 i _ h
      rw [q] at q2; cases q2; cases e2
      refine r.vw mm (fun x hx => ?_) (fun d p e md => by rw [upd_ne (ne_of e hh (by simp))]; exact md)
      rw [upd_ne (fun z => h2 j i _ _ e' h ho rfl nj x hx (by rw [ef2, z]; simp))]
      exact (r.there ho x hx).2.1
    · cases t' with
      | un => trivial
      | vl t x => obtain ⟨v, r1, r2⟩ := r; exact ⟨v, r1, t.ext mm r2⟩
      | ow _ _ => exact absurd rfl ho
      | o2 _ _ => exact absurd rfl ho
      | ob _ _ _ _ => exact absurd rfl ho

/-! ### a list of lists, all of one's own -/
/-- a new one: at p, its items at bs -/
theorem St.setOwn2 {α : Type} {t : Ty α} {xss : List (List α)} {bs : List Addr} {i : Nat} {p : Addr} (S : St K M0 H0 M H σ G) (n : Nx M H M' H') (hp : H p = none) (mp : M' p = none) (hH : H' p = some (.lst (bs.map V.ref))) (hb : ∀ x ∈ bs, H x = none) (hpb : p ∉ bs) (nd : bs.Nodup)
    (hr : Paired (fun b xs => M' b = none ∧ ∃ vs, H' b = some (.lst vs) ∧ Paired (t.rep K M') vs xs) bs xss) : St K M0 H0 M' H' (σ.set i (some (.ref p))) (G.set i (.o2 t xss)) := by
  have h0p : H0 p = none := S.nx.ex.free hp
  have fresh : ∀ x ∈ p :: bs, H x = none := fun x hx => by
    rcases List.mem_cons.mp hx with rfl | hx
    · exact hp
    · exact hb x hx
  refine S.change (fp := p :: bs) (S.nx.trans n) (fun _ A h1 _ j t' _ e o x hx hx2 => ?_) (fun _ _ _ _ _ _ _ _ r => r.next n) ⟨p, bs, rfl, rfl, h0p, mp, hH, hpb, nd, ?_⟩
  · obtain ⟨_, _, r⟩ := h1 j t' e
    obtain ⟨_, _, q⟩ := r.there o x hx
    rw [fresh x hx2] at q
    rcases q with ⟨_, q⟩ | ⟨_, _, _, q⟩ <;> cases q
  · have key : ∀ {bs : List Addr} {xss : List (List α)}, (∀ x ∈ bs, H x = none) → Paired (fun b xs => M' b = none ∧ ∃ vs, H' b = some (.lst vs) ∧ Paired (t.rep K M') vs xs) bs xss → Paired (OwnL K t H0 M' H') bs xss := by
      intro bs xss kk pp
      induction pp with
      | nil => exact .nil
      | cons r _ ih => exact .cons ⟨S.nx.ex.free (kk _ (by simp)), r.1, r.2⟩ (ih fun x hx => kk x (by simp [hx]))
    exact key hb hr
/-- its j-th list is changed -/
theorem St.put2 {α : Type} {t : Ty α} {xss : List (List α)} {xs ys : List α} {i j : Nat} (S : St K M0 H0 M H σ G) (h : G[i]? = some (.o2 t xss)) (hj : xss[j]? = some xs) :
    ∃ (a : Addr) (bs : List Addr) (b : Addr) (vs : List V), σ[i]? = some (some (.ref a)) ∧ H a = some (.lst (bs.map V.ref)) ∧ bs.length = xss.length ∧ bs[j]? = some b ∧ H b = some (.lst vs) ∧ M b = none ∧ Paired (t.rep K M) vs xs ∧ ∀ ws, Paired (t.rep K M) ws ys → St K M0 H0 M (upd H b (.lst ws)) σ (G.set i (.o2 t (xss.set j ys))) := by
  obtain ⟨A0, h10, h20⟩ := S.sl
  obtain ⟨o, q, a, bs, ef, e, h0, hm, hh, n1, n2, p⟩ := h10 i _ h
  subst e
  obtain ⟨b, eb, b0, bm, vs, hb, pr⟩ := paired_get p hj
  refine ⟨a, bs, b, vs, q, hh, p.length, eb, hb, bm, pr, fun ws pw => ?_⟩
  have bmem : b ∈ bs := List.mem_of_getElem? eb
  rw [← S.value q]
  refine S.change (fp := a :: bs) (nx_upd S.nx b0 bm) (fun _ A h1 h2 l t' nj e' o' x hx hx2 => ?_) (fun A h1 h2 l t' o' nj e' r => ?_) ⟨a, bs, rfl, rfl, h0, hm, by rw [upd_ne (fun z => n1 (by rw [z]; exact bmem))]; exact hh, n1, n2, ?_⟩
  · obtain ⟨o2, q2, a2, bs2, ef2, e2, _, _, hh2, _⟩ := h1 i _ h
    rw [q] at q2; cases q2; cases e2
    rw [hh] at hh2
    have eb2 : bs = bs2 := by
      have := Option.some.inj hh2
      injection this with this
      exact refs_inj this
    subst eb2
    exact h2 l i _ _ e' h o' rfl nj x hx (by rw [ef2]; exact hx2)
  · by_cases ho : t'.own = true
    · obtain ⟨o2, q2, a2, bs2, ef2, e2, _, _, hh2, _⟩ := h1 i _ h
      rw [q] at q2; cases q2; cases e2
      rw [hh] at hh2
      have eb2 : bs = bs2 := by
        have := Option.some.inj hh2
        injection this with this
        exact refs_inj this
      subst eb2
      exact r.keep (fun x hx => upd_ne (fun z => h2 l i _ _ e' h ho rfl nj x hx (by rw [ef2, z]; simp [bmem]))) (own_upd hb (fun _ => by simp))
    · cases t' with
      | un => trivial
      | vl t x => exact r
      | ow _ _ => exact absurd rfl ho
      | o2 _ _ => exact absurd rfl ho
      | ob _ _ _ _ => exact absurd rfl ho
  · have key2 : ∀ {cs : List Addr} {yss : List (List α)}, (∀ x ∈ cs, x ≠ b) → Paired (OwnL K t H0 M H) cs yss → Paired (OwnL K t H0 M (upd H b (.lst ws))) cs yss := by
      intro cs yss kk qq
      induction qq with
      | nil => exact .nil
      | cons r _ ih => exact .cons (r.keep (upd_ne (kk _ (by simp)))) (ih fun x hx => kk x (by simp [hx]))
    have key : ∀ {bs : List Addr} {xss : List (List α)} {j : Nat}, bs.Nodup → bs[j]? = some b → Paired (OwnL K t H0 M H) bs xss → Paired (OwnL K t H0 M (upd H b (.lst ws))) bs (xss.set j ys) := by
      intro bs xss j nd hb' pp
      induction pp generalizing j with
      | nil => exact .nil
      | cons r rest ih =>
        cases j with
        | zero =>
          have e1 := Option.some.inj (show some _ = some b from by simpa using hb')
          subst e1
          refine .cons ⟨r.1, r.2.1, ws, upd_same, pw⟩ ?_
          exact key2 (fun x hx z => (List.nodup_cons.mp nd).1 (by rw [← z]; exact hx)) rest
        | succ j =>
          rw [List.getElem?_cons_succ] at hb'
          exact .cons (r.keep (upd_ne (fun z => (List.nodup_cons.mp nd).1 (by rw [z]; exact List.mem_of_getElem? hb')))) (ih (List.nodup_cons.mp nd).2 hb')
    exact key n2 eb p
/-- its j-th list is exchanged for a new one at p; a new list is put behind -/
theorem St.new2 {α : Type} {t : Ty α} {xss yss : List (List α)} {i : Nat} {p : Addr} {cs : List Addr → List Addr} {xs : List α} {vs : List V} (S : St K M0 H0 M H σ G) (h : G[i]? = some (.o2 t xss)) (n : Nx M H M' H') (hp : H p = none) (mp : M' p = none) (hv : H' p = some (.lst vs)) (hr : Paired (t.rep K M') vs xs)
    (hc : ∀ bs : List Addr, bs.length = xss.length → bs.Nodup → p ∉ bs → (cs bs).Nodup ∧ ∀ x ∈ cs bs, x = p ∨ x ∈ bs) (hc2 : ∀ {F : Addr → List α → Prop} {bs : List Addr}, F p xs → Paired F bs xss → Paired F (cs bs) yss) :
    ∃ (a : Addr) (bs : List Addr), σ[i]? = some (some (.ref a)) ∧ H' a = some (.lst (bs.map V.ref)) ∧ bs.length = xss.length ∧ St K M0 H0 M' (upd H' a (.lst ((cs bs).map V.ref))) σ (G.set i (.o2 t yss)) := by
  obtain ⟨A0, h10, h20⟩ := S.sl
  obtain ⟨o, q, a, bs, ef, e, h0, hm, hh, n1, n2, pr⟩ := h10 i _ h
  subst e
  have hl := pr.length
  have old : ∀ x ∈ a :: bs, H x ≠ none := fun x hx => by
    rcases List.mem_cons.mp hx with rfl | hx
    · rw [hh]; simp
    · obtain ⟨j, hj⟩ := List.getElem?_of_mem hx
      obtain ⟨_, _, _, _, vs', hv', _⟩ := paired_get' pr hj
      rw [hv']; simp
  have pa : p ≠ a := fun z => old a (by simp) (by rw [← z]; exact hp)
  have pb : p ∉ bs := fun z => old p (by simp [z]) hp
  obtain ⟨c1, c2⟩ := hc bs hl n2 pb
  have ma' : M' a = none := n.fr a hm (by rw [hh]; simp)
  have hh' := n.ex _ _ hh
  refine ⟨a, bs, q, hh', hl, ?_⟩
  rw [← S.value q]
  refine S.change (fp := a :: cs bs) (nx_upd (S.nx.trans n) h0 ma') (fun _ A h1 h2 l t' nj e' o' x hx hx2 => ?_) (fun A h1 h2 l t' o' nj e' r => ?_) ⟨a, cs bs, rfl, rfl, h0, ma', upd_same, fun z => ?_, c1, ?_⟩
  · obtain ⟨o2, q2, a2, bs2, ef2, e2, _, _, hh2, _⟩ := h1 i _ h
    rw [q] at q2; cases q2; cases e2
    rw [hh] at hh2
    have eb2 : bs = bs2 := by
      have := Option.some.inj hh2
      injection this with this
      exact refs_inj this
    subst eb2
    rcases List.mem_cons.mp hx2 with rfl | hx2
    · exact h2 l i _ _ e' h o' rfl nj x hx (by rw [ef2]; simp)
    · rcases c2 x hx2 with rfl | hx3
      · obtain ⟨_, _, r⟩ := h1 l t' e'
        obtain ⟨_, _, qq⟩ := r.there o' x hx
        rw [hp] at qq
        rcases qq with ⟨_, qq⟩ | ⟨_, _, _, qq⟩ <;> cases qq
      · exact h2 l i _ _ e' h o' rfl nj x hx (by rw [ef2]; simp [hx3])
  · have r' := r.next n
    by_cases ho : t'.own = true
    · obtain ⟨o2, q2, a2, bs2, ef2, e2, _⟩ := h1 i _ h
      rw [q] at q2; cases q2; cases e2
      exact r'.keep (fun x hx => upd_ne (fun z => h2 l i _ _ e' h ho rfl nj x hx (by rw [ef2, z]; simp))) (own_upd hh' (fun _ => by simp))
    · cases t' with
      | un => trivial
      | vl t x => exact r'
      | ow _ _ => exact absurd rfl ho
      | o2 _ _ => exact absurd rfl ho
      | ob _ _ _ _ => exact absurd rfl ho
  · rcases c2 a z with z | z
    · exact pa z.symm
    · exact n1 z
  · have p2 : OwnL K t H0 M' (upd H' a (.lst ((cs bs).map V.ref))) p xs := ⟨S.nx.ex.free hp, mp, vs, by rw [upd_ne pa]; exact hv, hr⟩
    have key2 : ∀ {cs' : List Addr} {yss : List (List α)}, (∀ x ∈ cs', x ≠ a) → Paired (OwnL K t H0 M H) cs' yss → Paired (OwnL K t H0 M' (upd H' a (.lst ((cs bs).map V.ref)))) cs' yss := by
      intro cs' yss kk qq
      induction qq with
      | nil => exact .nil
      | cons r _ ih => exact .cons ((r.next n).keep (upd_ne (kk _ (by simp)))) (ih fun x hx => kk x (by simp [hx]))
    exact hc2 p2 (key2 (fun x hx z => n1 (by rw [← z]; exact hx)) pr)
def upds (M : Hp) (H : Hp) (bs : List Addr) : Hp := fun b => if b ∈ bs then H b else M b
/-- it is frozen, with all its lists -/
theorem St.freeze2 {α : Type} {t : Ty α} {xss : List (List α)} {i : Nat} (S : St K M0 H0 M H σ G) (h : G[i]? = some (.o2 t xss)) :
    ∃ fp : List Addr, (∀ x ∈ fp, M x = none ∧ H0 x = none ∧ ∃ vs, H x = some (.lst vs)) ∧ St K M0 H0 (upds M H fp) H σ (G.set i (.vl (tLst (tLst t)) xss)) := by
  obtain ⟨A0, h10, h20⟩ := S.sl
  obtain ⟨o, q, a, bs, ef, e, h0, hm, hh, n1, n2, p⟩ := h10 i _ h
  subst e
  have th := fun x hx => (h10 i _ h).elim fun o' z => z.2.there rfl x hx
  rw [ef] at th
  have allL : ∀ x ∈ a :: bs, M x = none ∧ H0 x = none ∧ ∃ vs, H x = some (.lst vs) := fun x hx => by
    rcases List.mem_cons.mp hx with rfl | hx
    · exact ⟨hm, h0, _, hh⟩
    · obtain ⟨j, hj⟩ := List.getElem?_of_mem hx
      obtain ⟨_, _, b0, bm, vs', hv', _⟩ := paired_get' p hj
      exact ⟨bm, b0, vs', hv'⟩
  have mm : Same M (upds M H (a :: bs)) := fun b u e => by
    unfold upds
    by_cases z : b ∈ a :: bs
    · rw [(allL b z).1] at e; cases e
    · rw [if_neg z]; exact e
  refine ⟨a :: bs, allL, ?_⟩
  rw [← S.value q]
  refine S.change (fp := []) ⟨S.nx.ex, S.nx.vx.trans mm, fun b u e => ?_, fun b n1 n2 => ?_⟩ (fun h => by cases h) (fun A h1 h2 j t' o' nj e' r => ?_) ⟨.ref a, rfl, a, bs.map V.ref, rfl, ?_, ?_⟩
  · unfold upds at e
    by_cases z : b ∈ a :: bs
    · rw [if_pos z] at e; exact e
    · rw [if_neg z] at e; exact S.sub b u e
  · unfold upds
    by_cases z : b ∈ a :: bs
    · exact absurd (allL b z).2.1 n2
    · rw [if_neg z]; exact S.nx.fr b n1 n2
  · by_cases ho : t'.own = true
    · obtain ⟨o2, q2, a2, bs2, ef2, e2, _, _, hh2, _⟩ := h1 i _ h
      rw [q] at q2; cases q2; cases e2
      rw [hh] at hh2
      have eb2 : bs = bs2 := by
        have := Option.some.inj hh2
        injection this with this
        exact refs_inj this
      subst eb2
      refine r.vw mm (fun x hx => ?_) (fun d p e md => ?_)
      · unfold upds
        rw [if_neg (fun z => h2 j i _ _ e' h ho rfl nj x hx (by rw [ef2]; exact z))]
        exact (r.there ho x hx).2.1
      · unfold upds
        rw [if_neg (fun z => by obtain ⟨_, _, vs, hv⟩ := allL d z; rw [e] at hv; cases hv)]
        exact md
    · cases t' with
      | un => trivial
      | vl t x => obtain ⟨v, r1, r2⟩ := r; exact ⟨v, r1, t.ext mm r2⟩
      | ow _ _ => exact absurd rfl ho
      | o2 _ _ => exact absurd rfl ho
      | ob _ _ _ _ => exact absurd rfl ho
  · unfold upds; rw [if_pos (by simp)]; exact hh
  · have key : ∀ {cs : List Addr} {yss : List (List α)}, (∀ x ∈ cs, x ∈ a :: bs) → Paired (OwnL K t H0 M H) cs yss → Paired ((tLst t).rep K (upds M H (a :: bs))) (cs.map V.ref) yss := by
      intro cs yss kk qq
      induction qq with
      | nil => exact .nil
      | cons r _ ih =>
        obtain ⟨_, _, vs, hv, pr⟩ := r
        exact .cons ⟨_, vs, rfl, by unfold upds; rw [if_pos (kk _ (by simp))]; exact hv, paired_imp (fun _ _ z => t.ext mm z) pr⟩ (ih fun x hx => kk x (by simp [hx]))
    exact key (fun x hx => by simp [hx]) p
/-- the view at hand as the one to start from -/
theorem St.rebase (S : St K M0 H0 M H σ G) : St K M H0 M H σ G :=
  ⟨⟨S.nx.ex, Same.refl _, S.nx.sub, fun _ q _ => q⟩, S.len, S.sl⟩
theorem Nx.unbase {M1 H1 : Hp} (n : Nx M0 H0 M1 H1) (m : Nx M1 H0 M H) : Nx M0 H0 M H := ⟨m.ex, n.vx.trans m.vx, m.sub, fun a q r => m.fr a (n.fr a q r) r⟩
theorem St.unbase {M1 H1 : Hp} (S : St K M1 H0 M H σ G) (n : Nx M0 H0 M1 H1) : St K M0 H0 M H σ G := ⟨n.unbase S.nx, S.len, S.sl⟩
def wipeG (G : List Sl) : List Nat → List Sl
  | [] => G
  | v :: vs => (wipeG G vs).set v .un
theorem St.wipe (S : St K M0 H0 M H σ G) : ∀ vs : List Nat, St K M0 H0 M H (L2.wipe σ vs) (wipeG G vs)
  | [] => S
  | v :: vs => (St.wipe S vs).drop
/-- less is said -/
inductive Sub : List Sl → List Sl → Prop where
  | nil : Sub [] []
  | same {s : Sl} {G G' : List Sl} (h : Sub G G') : Sub (s :: G) (s :: G')
  | un {s : Sl} {G G' : List Sl} (h : Sub G G') : Sub (s :: G) (.un :: G')
theorem Sub.len {G G' : List Sl} (h : Sub G G') : G.length = G'.length := by
  induction h with
  | nil => rfl
  | same _ ih => simp [ih]
  | un _ ih => simp [ih]
theorem Sub.get {G G' : List Sl} (h : Sub G G') : ∀ (i : Nat) (s : Sl), G'[i]? = some s → (s = Sl.un ∧ ∃ t, G[i]? = some t) ∨ G[i]? = some s := by
  induction h with
  | nil => intro i s e; simp at e
  | same _ ih =>
    intro i s e
    cases i with
    | zero => exact .inr (by simpa using e)
    | succ i => simpa using ih i s (by simpa using e)
  | un _ ih =>
    intro i s e
    cases i with
    | zero => exact .inl ⟨by simpa using e.symm, _, rfl⟩
    | succ i => simpa using ih i s (by simpa using e)
theorem Sub.refl : ∀ G : List Sl, Sub G G
  | [] => .nil
  | _ :: G => .same (Sub.refl G)
theorem St.weak {G' : List Sl} (S : St K M0 H0 M H σ G) (h : Sub G G') : St K M0 H0 M H σ G' := by
  obtain ⟨A, h1, h2⟩ := S.sl
  refine ⟨S.nx, S.len.trans h.len, A, fun i s e => ?_, fun i j s t e1 e2 o1 o2 => ?_⟩
  · rcases h.get i s e with ⟨rfl, t, q⟩ | q
    · obtain ⟨o, q', _⟩ := h1 i t q
      exact ⟨o, q', trivial⟩
    · exact h1 i s q
  · rcases h.get i s e1 with ⟨rfl, _⟩ | q1
    · cases o1
    · rcases h.get j t e2 with ⟨rfl, _⟩ | q2
      · cases o2
      · exact h2 i j s t q1 q2 o1 o2
end
end TL

namespace TL
open PySem L2

/-! ### judgements -/
section
variable {α β γ : Type}
/-- e is worth x in the context G -/
structure E (X : Cx) (G : List Sl) (e : Expr) (t : Ty α) (x : α) : Prop where
  run : ∀ {M0 H0 M H : Hp} {σ : L2.St}, St X.K M0 H0 M H σ G → ∀ (Q : VK), (∀ v M' H', Nx M H M' H' → t.rep X.K M' v x → Q v H') → wE X e σ H Q
/-- a test -/
structure T (X : Cx) (G : List Sl) (e : Expr) (b : Bool) : Prop where
  run : ∀ {M0 H0 M H : Hp} {σ : L2.St}, St X.K M0 H0 M H σ G → ∀ (Q : Bool → Hp → Prop), (∀ M' H', Nx M H M' H' → Q b H') → wT X e σ H Q
def wW (X : Cx) (e : Expr) : TT := fun σ H Q => ∃ te, PW X e te ∧ te σ H Q
theorem pw_w {X : Cx} {e : Expr} : PW X e (wW X e) := ⟨fun wh pins s σ H Q I ⟨_, p, h⟩ => p.run wh pins s σ H Q I h⟩
structure TW (X : Cx) (G : List Sl) (e : Expr) (b : Bool) : Prop where
  run : ∀ {M0 H0 M H : Hp} {σ : L2.St}, St X.K M0 H0 M H σ G → ∀ (Q : Bool → Hp → Prop), (∀ M' H', Nx M H M' H' → Q b H') → wW X e σ H Q
inductive Reps (K : Fg) (M : Hp) : List V → List Sl → Prop where
  | nil : Reps K M [] []
  | cons {α : Type} {t : Ty α} {x : α} {v : V} {vs : List V} {ss : List Sl} (h : t.rep K M v x) (r : Reps K M vs ss) : Reps K M (v :: vs) (.vl t x :: ss)
/-- arguments -/
structure EA (X : Cx) (G : List Sl) (es : List Expr) (ss : List Sl) : Prop where
  run : ∀ {M0 H0 M H : Hp} {σ : L2.St}, St X.K M0 H0 M H σ G → ∀ (Q : List V → Hp → Prop), (∀ vs M' H', Nx M H M' H' → Reps X.K M' vs ss → Q vs H') → wA X es σ H Q
/-- items of one type -/
structure EH (X : Cx) (G : List Sl) (es : List Expr) (t : Ty α) (xs : List α) : Prop where
  run : ∀ {M0 H0 M H : Hp} {σ : L2.St}, St X.K M0 H0 M H σ G → ∀ (Q : List V → Hp → Prop), (∀ vs M' H', Nx M H M' H' → Paired (t.rep X.K M') vs xs → Q vs H') → wA X es σ H Q
/-- a new list, not yet frozen -/
structure EL (X : Cx) (G : List Sl) (e : Expr) (t : Ty α) (xs : List α) : Prop where
  run : ∀ {M0 H0 M H : Hp} {σ : L2.St}, St X.K M0 H0 M H σ G → ∀ (Q : VK), (∀ p M' H' vs, Nx M H M' H' → H p = none → M' p = none → H' p = some (.lst vs) → Paired (t.rep X.K M') vs xs → Q (.ref p) H') → wE X e σ H Q
end

section
variable {α β γ : Type} {X : Cx} {G : List Sl} {a b c e : Expr} {es rest : List Expr} {s : Ty α} {t : Ty β} {u : Ty γ} {x : α} {y : β} {z : γ} {pos : Pos}

theorem E.is {x' : α} (h : E X G e s x) (q : x = x') : E X G e s x' := q ▸ h
theorem E.as (h : E X G e s x) (q : ∀ M v, s.rep X.K M v x → t.rep X.K M v y) : E X G e t y := ⟨fun S Q k => h.run S Q fun v M' H' n r => k v M' H' n (q M' v r)⟩
theorem E.weak {G' : List Sl} (h : E X G' e s x) (w : Sub G G') : E X G e s x := ⟨fun S Q k => h.run (S.weak w) Q k⟩
theorem EL.toE {xs : List α} (h : EL X G e s xs) : E X G e (tLst s) xs := ⟨fun S Q k => h.run S Q fun p M' H' vs n hp mp hh r =>
  k (.ref p) (upd M' p (.lst vs)) H' ⟨n.ex, n.vx.trans (same_new mp), fun b o q => by
    by_cases z : b = p
    · subst z; rw [upd_same] at q; cases q; exact hh
    · rw [upd_ne z] at q; exact n.sub b o q, fun b n1 n2 => by
    rw [upd_ne (fun z => n2 (by rw [z]; exact hp))]; exact n.fr b n1 n2⟩ ⟨p, vs, rfl, upd_same, paired_imp (fun _ _ q => s.ext (same_new mp) q) r⟩⟩

/-! ### names, constants -/
theorem e_var (i : Nat) {n : Str} (h : G[i]? = some (.vl s x) := by rfl) (hN : X.N[i]? = some n := by rfl)
    (hv : Vis X.env.scope n := by first | exact Or.inl rfl | exact Or.inr (Or.inl rfl) | exact Or.inr (Or.inr rfl)) (hd : (n == ("__debug__" : Str)) = false := by decide)
    (hcd : (n == ("__classdict__" : Str)) = false := by decide) : E X G (.Name n pos) s x := ⟨fun {M0 H0 M H σ} S Q k => by
  obtain ⟨v, e, r⟩ := S.get h
  exact ⟨_, pe_var hN hv hd hcd, v, e, k v M H (Nx.refl S.sub) r⟩⟩
theorem e_int {i : Int} {j : Nat} : E X G (.Constant (.int i) j pos) tI i := ⟨fun {M0 H0 M H σ} S Q k => ⟨_, pe_int, k _ M H (Nx.refl S.sub) rfl⟩⟩
theorem e_bl {i : Bool} {j : Nat} : E X G (.Constant (.bool i) j pos) tB i := ⟨fun {M0 H0 M H σ} S Q k => ⟨_, pe_bl, k _ M H (Nx.refl S.sub) rfl⟩⟩
theorem e_non {j : Nat} : E X G (.Constant .none j pos) tN () := ⟨fun {M0 H0 M H σ} S Q k => ⟨_, pe_non, k _ M H (Nx.refl S.sub) rfl⟩⟩
theorem e_str {i : Str} {j : Nat} : E X G (.Constant (.str i) j pos) tS i := ⟨fun {M0 H0 M H σ} S Q k => ⟨_, pe_str, k _ M H (Nx.refl S.sub) rfl⟩⟩
/-- a class as a value -/
def tC : Ty V := ⟨fun _ _ v x => v = x, fun _ h => h⟩
theorem e_ty {n : Str} {nm : String} (hm : X.mg n = none) (hv : bootBuiltins n = some (.type nm) := by decide +kernel) (hg : Gl X n := by rfl) (hn : n ≠ "__name__" := by decide) (hd : (n == ("__debug__" : Str)) = false := by decide) : E X G (.Name n pos) tC (.ty nm) :=
  ⟨fun {M0 H0 M H σ} S Q k => ⟨_, pe_bltn hg hm hv (show RelV (.ty nm) (.type nm) from rfl) hn hd, k _ M H (Nx.refl S.sub) rfl⟩⟩
theorem e_cls {n : Str} {C : Addr} (hm : X.mg n = some (.ref C)) (hg : Gl X n := by rfl) (hd : (n == ("__debug__" : Str)) = false := by decide) : E X G (.Name n pos) tC (.ref C) :=
  ⟨fun {M0 H0 M H σ} S Q k => ⟨_, pe_glob hg hm (show RelV (.ref C) (.ref C) from rfl) hd, k _ M H (Nx.refl S.sub) rfl⟩⟩

/-! ### operators -/
theorem e_op2 {op : Operator} {r : R2} (ho : OpR X (binaryOp op) r) (ha : E X G a s x) (hb : E X G b t y)
    (hr : ∀ (M H : Hp) (v w : V) (Q : VK), Same M H → s.rep X.K M v x → t.rep X.K M w y → (∀ q M' H', Nx M H M' H' → u.rep X.K M' q z → Q q H') → r v w H Q) : E X G (.BinOp a op b pos) u z := ⟨fun S Q k =>
  ⟨_, pe_op ho pe_w pe_w, ha.run S _ fun v M1 H1 n1 r1 => hb.run (S.next n1) _ fun w M2 H2 n2 r2 => hr M2 H2 v w Q n2.sub (s.ext n2.vx r1) r2 fun q M3 H3 n3 r3 => k q M3 H3 ((n1.trans n2).trans n3) r3⟩⟩
/-- .. that makes a new list -/
theorem el_op2 {op : Operator} {r : R2} {zs : List γ} (ho : OpR X (binaryOp op) r) (ha : E X G a s x) (hb : E X G b t y)
    (hr : ∀ (M H : Hp) (v w : V) (Q : VK), Same M H → s.rep X.K M v x → t.rep X.K M w y → (∀ p M' H' vs, Nx M H M' H' → H p = none → M' p = none → H' p = some (.lst vs) → Paired (u.rep X.K M') vs zs → Q (.ref p) H') → r v w H Q) : EL X G (.BinOp a op b pos) u zs := ⟨fun {M0 H0 M H σ} S Q k =>
  ⟨_, pe_op ho pe_w pe_w, ha.run S _ fun v M1 H1 n1 r1 => hb.run (S.next n1) _ fun w M2 H2 n2 r2 => hr M2 H2 v w Q n2.sub (s.ext n2.vx r1) r2 fun p M3 H3 vs n3 hp mp hh r3 => k p M3 H3 vs ((n1.trans n2).trans n3) ((n1.trans n2).ex.free hp) mp hh r3⟩⟩
theorem e_un {op : UnaryOp} {r : V → Hp → VK → Prop} (ho : UnR X (unaryOp op) r) (ha : E X G a s x)
    (hr : ∀ (M H : Hp) (v : V) (Q : VK), Same M H → s.rep X.K M v x → (∀ q M' H', Nx M H M' H' → u.rep X.K M' q z → Q q H') → r v H Q) : E X G (.UnaryOp op a pos) u z := ⟨fun S Q k =>
  ⟨_, pe_un ho pe_w, ha.run S _ fun v M1 H1 n1 r1 => hr M1 H1 v Q n1.sub r1 fun q M3 H3 n3 r3 => k q M3 H3 (n1.trans n3) r3⟩⟩
variable {i j : Int}
theorem e_add (ha : E X G a tI i) (hb : E X G b tI j) : E X G (.BinOp a .Add b pos) tI (i + j) := e_op2 op_add ha hb fun M H v w Q m h1 h2 k => ⟨i, j, h1, h2, k _ M H (Nx.refl m) rfl⟩
theorem e_sub (ha : E X G a tI i) (hb : E X G b tI j) : E X G (.BinOp a .Sub b pos) tI (i - j) := e_op2 op_sub ha hb fun M H v w Q m h1 h2 k => ⟨i, j, h1, h2, k _ M H (Nx.refl m) rfl⟩
theorem e_mulL (ha : E X G a tI i) (hb : E X G b tI j) (h : -18446744073709551616 < i ∧ i < 18446744073709551616) : E X G (.BinOp a .Mult b pos) tI (i * j) := e_op2 op_mul ha hb fun M H v w Q m h1 h2 k => ⟨i, j, h1, h2, .inl h, k _ M H (Nx.refl m) rfl⟩
theorem e_mulR (ha : E X G a tI i) (hb : E X G b tI j) (h : -18446744073709551616 < j ∧ j < 18446744073709551616) : E X G (.BinOp a .Mult b pos) tI (i * j) := e_op2 op_mul ha hb fun M H v w Q m h1 h2 k => ⟨i, j, h1, h2, .inr h, k _ M H (Nx.refl m) rfl⟩
theorem e_mod (ha : E X G a tI i) (hb : E X G b tI j) (h : 0 < j) : E X G (.BinOp a .Mod b pos) tI (i % j) := e_op2 op_mod ha hb fun M H v w Q m h1 h2 k => ⟨i, j, h1, h2, h, k _ M H (Nx.refl m) rfl⟩
theorem e_div (ha : E X G a tI i) (hb : E X G b tI j) (h : 0 < j ∧ j < 1073741824) : E X G (.BinOp a .FloorDiv b pos) tI (i / j) := e_op2 op_fdiv ha hb fun M H v w Q m h1 h2 k => ⟨i, j, h1, h2, h, k _ M H (Nx.refl m) rfl⟩
theorem e_divW (ha : E X G a tI i) (hb : E X G b tI j) (h : 0 < j ∧ j.natAbs < 2 ^ 9000) : E X G (.BinOp a .FloorDiv b pos) tI (i / j) := e_op2 op_fdivW ha hb fun M H v w Q m h1 h2 k => ⟨i, j, h1, h2, wide_div h.1 h.2 (by decide) (by decide), k _ M H (Nx.refl m) rfl⟩
theorem e_pow (ha : E X G a tI i) (hb : E X G b tI j) (h : 0 ≤ j ∧ j ≤ 1000000 ∧ i.natAbs < 2 ^ 64) : E X G (.BinOp a .Pow b pos) tI (i ^ j.toNat) := e_op2 op_pow ha hb fun M H v w Q m h1 h2 k => ⟨i, j, h1, h2, h, k _ M H (Nx.refl m) rfl⟩
theorem e_neg (ha : E X G a tI i) : E X G (.UnaryOp .USub a pos) tI (-i) := e_un un_neg ha fun M H v Q m h1 k => ⟨i, h1, k _ M H (Nx.refl m) rfl⟩
/-- a comparison, as a value and as a test -/
theorem e_cmp {op : CmpOp} {r : R2} {d : Bool} (ho : OpR X (compareOp op) r) (ha : E X G a s x) (hb : E X G b t y)
    (hr : ∀ (M H : Hp) (v w : V) (Q : VK), Same M H → s.rep X.K M v x → t.rep X.K M w y → (∀ M' H', Nx M H M' H' → Q (.bl d) H') → r v w H Q) (hm : behindInMarks op b = false) : E X G (.Compare a [op] [b] pos) tB d := ⟨fun S Q k =>
  ⟨_, pe_cmpR ho pe_w pe_w hm, ha.run S _ fun v M1 H1 n1 r1 => hb.run (S.next n1) _ fun w M2 H2 n2 r2 => hr M2 H2 v w Q n2.sub (s.ext n2.vx r1) r2 fun M3 H3 n3 => k _ M3 H3 ((n1.trans n2).trans n3) rfl⟩⟩
theorem t_cmp {op : CmpOp} {r : R2} {d : Bool} (ho : OpR X (compareOp op) r) (ha : E X G a s x) (hb : E X G b t y)
    (hr : ∀ (M H : Hp) (v w : V) (Q : VK), Same M H → s.rep X.K M v x → t.rep X.K M w y → (∀ M' H', Nx M H M' H' → Q (.bl d) H') → r v w H Q) (hm : behindInMarks op b = false) : T X G (.Compare a [op] [b] pos) d := ⟨fun S Q k =>
  ⟨_, pt_cmpR ho pe_w pe_w hm, ha.run S _ fun v M1 H1 n1 r1 => hb.run (S.next n1) _ fun w M2 H2 n2 r2 => hr M2 H2 v w _ n2.sub (s.ext n2.vx r1) r2 fun M3 H3 n3 => ⟨d, rfl, k M3 H3 ((n1.trans n2).trans n3)⟩⟩⟩
/-- what a comparison of values says -/
structure CmpV (X : Cx) (op : CmpOp) (s : Ty α) (t : Ty β) (x : α) (y : β) (d : Bool) : Prop where
  r : ∃ r : R2, OpR X (compareOp op) r ∧ ∀ (M H : Hp) (v w : V) (Q : VK), Same M H → s.rep X.K M v x → t.rep X.K M w y → (∀ M' H', Nx M H M' H' → Q (.bl d) H') → r v w H Q
theorem e_cv {op : CmpOp} {d : Bool} (ha : E X G a s x) (hb : E X G b t y) (c : CmpV X op s t x y d) (hm : behindInMarks op b = false := by first | exact nomark _ | rfl) : E X G (.Compare a [op] [b] pos) tB d := by
  obtain ⟨r, ho, hr⟩ := c.r
  exact e_cmp ho ha hb hr hm
theorem t_cv {op : CmpOp} {d : Bool} (ha : E X G a s x) (hb : E X G b t y) (c : CmpV X op s t x y d) (hm : behindInMarks op b = false := by first | exact nomark _ | rfl) : T X G (.Compare a [op] [b] pos) d := by
  obtain ⟨r, ho, hr⟩ := c.r
  exact t_cmp ho ha hb hr hm
theorem cv_lt : CmpV X .Lt tI tI i j (decide (i < j)) := ⟨_, op_lt, fun M H v w Q m h1 h2 k => ⟨i, j, h1, h2, k M H (Nx.refl m)⟩⟩
theorem cv_le : CmpV X .LtE tI tI i j (decide (i ≤ j)) := ⟨_, op_le, fun M H v w Q m h1 h2 k => ⟨i, j, h1, h2, k M H (Nx.refl m)⟩⟩
theorem cv_gt : CmpV X .Gt tI tI i j (decide (j < i)) := ⟨_, op_gt, fun M H v w Q m h1 h2 k => ⟨i, j, h1, h2, k M H (Nx.refl m)⟩⟩
theorem cv_ge : CmpV X .GtE tI tI i j (decide (j ≤ i)) := ⟨_, op_ge, fun M H v w Q m h1 h2 k => ⟨i, j, h1, h2, k M H (Nx.refl m)⟩⟩
theorem dec_vint : decide (V.int i = V.int j) = decide (i = j) := by
  by_cases h : i = j
  · subst h; simp
  · rw [decide_eq_false h, decide_eq_false]; intro q; cases q; exact h rfl
theorem dec_vstr {i j : Str} : decide (V.str i = V.str j) = decide (i = j) := by
  by_cases h : i = j
  · subst h; simp
  · rw [decide_eq_false h, decide_eq_false]; intro q; cases q; exact h rfl
theorem dec_vbl {i j : Bool} : decide (V.bl i = V.bl j) = decide (i = j) := by
  by_cases h : i = j
  · subst h; simp
  · rw [decide_eq_false h, decide_eq_false]; intro q; cases q; exact h rfl
theorem cv_eqI : CmpV X .Eq tI tI i j (decide (i = j)) := ⟨_, op_eq, fun M H v w Q m h1 h2 k => by
  cases h1; cases h2; exact ⟨rfl, by rw [dec_vint]; exact k M H (Nx.refl m)⟩⟩
theorem cv_neI : CmpV X .NotEq tI tI i j (!decide (i = j)) := ⟨_, op_ne, fun M H v w Q m h1 h2 k => by
  cases h1; cases h2; exact ⟨rfl, by rw [dec_vint]; exact k M H (Nx.refl m)⟩⟩
theorem cv_eqS {i j : Str} : CmpV X .Eq tS tS i j (decide (i = j)) := ⟨_, op_eq, fun M H v w Q m h1 h2 k => by
  cases h1; cases h2; exact ⟨rfl, by rw [dec_vstr]; exact k M H (Nx.refl m)⟩⟩
theorem cv_neS {i j : Str} : CmpV X .NotEq tS tS i j (!decide (i = j)) := ⟨_, op_ne, fun M H v w Q m h1 h2 k => by
  cases h1; cases h2; exact ⟨rfl, by rw [dec_vstr]; exact k M H (Nx.refl m)⟩⟩
theorem cv_isN {s : Ty α} {x : α} {d : Bool} (h : ∀ M v, s.rep X.K M v x → decide (v = V.non) = d) : CmpV X .Is s tN x () d := ⟨_, op_isN, fun M H v w Q m h1 h2 k => by
  cases h2; exact ⟨rfl, by rw [h M v h1]; exact k M H (Nx.refl m)⟩⟩
theorem cv_isnotN {s : Ty α} {x : α} {d : Bool} (h : ∀ M v, s.rep X.K M v x → decide (v = V.non) = d) : CmpV X .IsNot s tN x () (!d) := ⟨_, op_notN, fun M H v w Q m h1 h2 k => by
  cases h2; exact ⟨rfl, by rw [h M v h1]; exact k M H (Nx.refl m)⟩⟩
/-- two data at any depth -/
theorem cv_eqD {k : Nat} (hr : Room k X.A) {d e : PyData} (sd : SeqAt.shaped d = true) (se : SeqAt.shaped e = true) (hs : ∀ M v, s.rep X.K M v x → Dp X.K M v d) (ht : ∀ M v, t.rep X.K M v y → Dp X.K M v e) : CmpV X .Eq s t x y (PyData.eqv d e) :=
  ⟨_, op_eqD hr.units, fun M H v w Q m h1 h2 k => ⟨d, e, dp_ext m d v (hs M v h1), dp_ext m e w (ht M w h2), sd, se, k M H (Nx.refl m)⟩⟩
theorem cv_neD {k : Nat} (hr : Room k X.A) {d e : PyData} (sd : SeqAt.shaped d = true) (se : SeqAt.shaped e = true) (hs : ∀ M v, s.rep X.K M v x → Dp X.K M v d) (ht : ∀ M v, t.rep X.K M v y → Dp X.K M v e) : CmpV X .NotEq s t x y (!PyData.eqv d e) :=
  ⟨_, op_neD hr.units, fun M H v w Q m h1 h2 k => ⟨d, e, dp_ext m d v (hs M v h1), dp_ext m e w (ht M w h2), sd, se, k M H (Nx.refl m)⟩⟩
/-- a < b < c -/
theorem e_chain {op op' : CmpOp} {d d' : Bool} (ha : E X G a s x) (hb : E X G b t y) (hc : E X G c u z) (c1 : CmpV X op s t x y d) (c2 : d = true → CmpV X op' t u y z d') (h1 : ∀ r r', OpR X (compareOp op) r → OpR X (compareOp op') r' → PE X (.Compare a [op, op'] [b, c] pos) (tChain r r' (wE X a) (wE X b) (wE X c)) := by
    intro r r' h h'; exact pe_chain h h' pe_w pe_w pe_w) (r0 : ∃ r, OpR X (compareOp op') r) : E X G (.Compare a [op, op'] [b, c] pos) tB (d && d') := ⟨fun S Q k => by
  obtain ⟨r, ho, hr⟩ := c1.r
  cases d with
  | true =>
    obtain ⟨r', ho', hr'⟩ := (c2 rfl).r
    refine ⟨_, h1 r r' ho ho', ha.run S _ fun v M1 H1 n1 r1 => hb.run (S.next n1) _ fun w M2 H2 n2 r2 => hr M2 H2 v w _ n2.sub (s.ext n2.vx r1) r2 fun M3 H3 n3 => ⟨true, rfl, ?_⟩⟩
    rw [if_pos rfl]
    exact hc.run (S.next ((n1.trans n2).trans n3)) _ fun q M4 H4 n4 r4 => hr' M4 H4 w q Q n4.sub (t.ext (n3.vx.trans n4.vx) r2) r4 fun M5 H5 n5 => k _ M5 H5 ((((n1.trans n2).trans n3).trans n4).trans n5) rfl
  | false =>
    obtain ⟨r', ho'⟩ := r0
    refine ⟨_, h1 r r' ho ho', ha.run S _ fun v M1 H1 n1 r1 => hb.run (S.next n1) _ fun w M2 H2 n2 r2 => hr M2 H2 v w _ n2.sub (s.ext n2.vx r1) r2 fun M3 H3 n3 => ⟨false, rfl, ?_⟩⟩
    rw [if_neg (by decide)]
    exact k _ M3 H3 ((n1.trans n2).trans n3) rfl⟩
theorem t_chain {op op' : CmpOp} {d d' : Bool} (ha : E X G a s x) (hb : E X G b t y) (hc : E X G c u z) (c1 : CmpV X op s t x y d) (c2 : d = true → CmpV X op' t u y z d') (h1 : ∀ r r', OpR X (compareOp op) r → OpR X (compareOp op') r' → PT X (.Compare a [op, op'] [b, c] pos) (tTest (tChain r r' (wE X a) (wE X b) (wE X c))) := by
    intro r r' h h'; exact pt_chain h h' pe_w pe_w pe_w) (r0 : ∃ r, OpR X (compareOp op') r) : T X G (.Compare a [op, op'] [b, c] pos) (d && d') := ⟨fun S Q k => by
  obtain ⟨r, ho, hr⟩ := c1.r
  cases d with
  | true =>
    obtain ⟨r', ho', hr'⟩ := (c2 rfl).r
    refine ⟨_, h1 r r' ho ho', ha.run S _ fun v M1 H1 n1 r1 => hb.run (S.next n1) _ fun w M2 H2 n2 r2 => hr M2 H2 v w _ n2.sub (s.ext n2.vx r1) r2 fun M3 H3 n3 => ⟨true, rfl, ?_⟩⟩
    rw [if_pos rfl]
    exact hc.run (S.next ((n1.trans n2).trans n3)) _ fun q M4 H4 n4 r4 => hr' M4 H4 w q _ n4.sub (t.ext (n3.vx.trans n4.vx) r2) r4 fun M5 H5 n5 => ⟨_, rfl, k M5 H5 ((((n1.trans n2).trans n3).trans n4).trans n5)⟩
  | false =>
    obtain ⟨r', ho'⟩ := r0
    refine ⟨_, h1 r r' ho ho', ha.run S _ fun v M1 H1 n1 r1 => hb.run (S.next n1) _ fun w M2 H2 n2 r2 => hr M2 H2 v w _ n2.sub (s.ext n2.vx r1) r2 fun M3 H3 n3 => ⟨false, rfl, ?_⟩⟩
    rw [if_neg (by decide)]
    exact ⟨_, rfl, k M3 H3 ((n1.trans n2).trans n3)⟩⟩

/-! ### truth -/
variable {p q : Bool}
theorem t_val (h : E X G e tB p) (he : ∀ whole, isTrue e X.env whole = (do let v ← whole; standAt e.pos; holding [v] (truthy v)) := by intro _; rfl) : T X G e p := ⟨fun S Q k =>
  ⟨_, pt_val pe_w he, h.run S _ fun v M1 H1 n1 r1 => ⟨p, r1, k M1 H1 n1⟩⟩⟩
theorem TW.toT (h : TW X G e p) : T X G e p := ⟨fun S Q k => ⟨_, pw_w.pt, h.run S Q k⟩⟩
theorem w_and1 (h : T X G a p) : TW X G (.BoolOp .And [a] pos) p := ⟨fun S Q k => ⟨_, pw_and1 pt_w, h.run S Q k⟩⟩
theorem w_or1 (h : T X G a p) : TW X G (.BoolOp .Or [a] pos) p := ⟨fun S Q k => ⟨_, pw_or1 pt_w, h.run S Q k⟩⟩
theorem w_and (h : T X G a p) (h2 : p = true → TW X G (.BoolOp .And (b :: rest) pos) q) : TW X G (.BoolOp .And (a :: b :: rest) pos) (p && q) := ⟨fun S Q k =>
  ⟨_, pw_and pt_w pw_w, h.run S _ fun M1 H1 n1 => by
    cases p with
    | true => rw [if_pos rfl]; exact (h2 rfl).run (S.next n1) _ fun M2 H2 n2 => k M2 H2 (n1.trans n2)
    | false => rw [if_neg (by decide)]; exact k M1 H1 n1⟩⟩
theorem w_or (h : T X G a p) (h2 : p = false → TW X G (.BoolOp .Or (b :: rest) pos) q) : TW X G (.BoolOp .Or (a :: b :: rest) pos) (p || q) := ⟨fun S Q k =>
  ⟨_, pw_or pt_w pw_w, h.run S _ fun M1 H1 n1 => by
    cases p with
    | false => rw [if_neg (by decide)]; exact (h2 rfl).run (S.next n1) _ fun M2 H2 n2 => k M2 H2 (n1.trans n2)
    | true => rw [if_pos rfl]; exact k M1 H1 n1⟩⟩
theorem t_not (h : T X G a p) : T X G (.UnaryOp .Not a pos) (!p) := ⟨fun S Q k => ⟨_, pt_not pt_w, h.run S _ fun M1 H1 n1 => k M1 H1 n1⟩⟩
theorem e_one {op} (h : E X G a tB p) : E X G (.BoolOp op [a] pos) tB p := ⟨fun S Q k => ⟨_, pe_one pe_w, h.run S Q k⟩⟩
theorem e_and (h : E X G a tB p) (h2 : p = true → E X G (.BoolOp .And (b :: rest) pos) tB q) : E X G (.BoolOp .And (a :: b :: rest) pos) tB (p && q) := ⟨fun S Q k =>
  ⟨_, pe_and pe_w pe_w, h.run S _ fun v M1 H1 n1 r1 => ⟨p, r1, by
    cases p with
    | true => rw [if_pos rfl]; exact (h2 rfl).run (S.next n1) _ fun v M2 H2 n2 r2 => k v M2 H2 (n1.trans n2) r2
    | false => rw [if_neg (by decide)]; exact k _ M1 H1 n1 rfl⟩⟩⟩
theorem e_or (h : E X G a tB p) (h2 : p = false → E X G (.BoolOp .Or (b :: rest) pos) tB q) : E X G (.BoolOp .Or (a :: b :: rest) pos) tB (p || q) := ⟨fun S Q k =>
  ⟨_, pe_or pe_w pe_w, h.run S _ fun v M1 H1 n1 r1 => ⟨p, r1, by
    cases p with
    | false => rw [if_neg (by decide)]; exact (h2 rfl).run (S.next n1) _ fun v M2 H2 n2 r2 => k v M2 H2 (n1.trans n2) r2
    | true => rw [if_pos rfl]; exact k _ M1 H1 n1 rfl⟩⟩⟩
theorem e_not (h : E X G a tB p) : E X G (.UnaryOp .Not a pos) tB (!p) := ⟨fun S Q k => ⟨_, pe_not pe_w, h.run S _ fun v M1 H1 n1 r1 => ⟨p, r1, k _ M1 H1 n1 rfl⟩⟩⟩
theorem e_if {x y : α} (h : T X G c p) (h1 : p = true → E X G a s x) (h2 : p = false → E X G b s y) : E X G (.IfExp c a b pos) s (if p = true then x else y) := ⟨fun S Q k =>
  ⟨_, pe_ifExp pt_w pe_w pe_w, h.run S _ fun M1 H1 n1 => by
    cases p with
    | true => rw [if_pos rfl] at *; exact (h1 rfl).run (S.next n1) _ fun v M2 H2 n2 r2 => k v M2 H2 (n1.trans n2) r2
    | false => rw [if_neg (by decide)] at *; exact (h2 rfl).run (S.next n1) _ fun v M2 H2 n2 r2 => k v M2 H2 (n1.trans n2) r2⟩⟩

/-! ### arguments, displays -/
variable {ss : List Sl} {xs ys : List α}
theorem ea_nil : EA X G [] [] := ⟨fun {M0 H0 M H σ} S Q k => ⟨_, pa_nil, k [] M H (Nx.refl S.sub) .nil⟩⟩
theorem reps_ext {K : Fg} {M M' : Hp} (e : Same M M') : ∀ {vs : List V} {ss : List Sl}, Reps K M vs ss → Reps K M' vs ss
  | _, _, .nil => .nil
  | _, _, .cons h t => .cons (Ty.ext _ e h) (reps_ext e t)
theorem ea_cons (h : E X G e s x) (hr : EA X G es ss) (hs : starEach (e :: es) X.env = (false, eval e X.env) :: starEach es X.env := by rfl) : EA X G (e :: es) (.vl s x :: ss) := ⟨fun S Q k =>
  ⟨_, pa_cons pe_w pa_w hs, h.run S _ fun v M1 H1 n1 r1 => hr.run (S.next n1) _ fun vs M2 H2 n2 r2 => k _ M2 H2 (n1.trans n2) (.cons (s.ext n2.vx r1) r2)⟩⟩
theorem eh_nil : EH X G [] s [] := ⟨fun {M0 H0 M H σ} S Q k => ⟨_, pa_nil, k [] M H (Nx.refl S.sub) .nil⟩⟩
theorem eh_cons (h : E X G e s x) (hr : EH X G es s xs) (hs : starEach (e :: es) X.env = (false, eval e X.env) :: starEach es X.env := by rfl) : EH X G (e :: es) s (x :: xs) := ⟨fun S Q k =>
  ⟨_, pa_cons pe_w pa_w hs, h.run S _ fun v M1 H1 n1 r1 => hr.run (S.next n1) _ fun vs M2 H2 n2 r2 => k _ M2 H2 (n1.trans n2) (.cons (s.ext n2.vx r1) r2)⟩⟩
theorem paired_same {F G' : V → α → Prop} {vs : List V} {xs : List α} (h : Paired F vs xs) (f : ∀ a b, F a b → G' a b) : Paired G' vs xs := paired_imp f h
theorem e_tup {n : Nat} (h : EH X G es s xs) (hl : xs.length ≤ 1000000 := by first | decide | simp) : E X G (.Tuple es n pos) (tTup s) xs := ⟨fun S Q k =>
  ⟨_, pe_tup pa_w, h.run S _ fun vs M1 H1 n1 r1 => ⟨by rw [r1.length]; exact Nat.le_trans hl (by decide), fun p hp =>
    k _ _ _ (n1.trans (Nx.new n1.sub hp)) ⟨p, vs, rfl, .inl (.inl upd_same), paired_imp (fun _ _ q => s.ext (same_new (same_none n1.sub hp)) q) r1⟩⟩⟩⟩
theorem el_lst (h : EH X G es s xs) (hl : xs.length ≤ 1000000 := by first | decide | simp) : EL X G (.List es pos) s xs := ⟨fun {M0 H0 M H σ} S Q k =>
  ⟨_, pe_lst pa_w, h.run S _ fun vs M1 H1 n1 r1 => ⟨by rw [r1.length]; exact Nat.le_trans hl (by decide), fun p hp =>
    k p M1 _ vs ⟨n1.ex.trans (same_new hp), n1.vx, n1.sub.trans (same_new hp), n1.fr⟩ (n1.ex.free hp) (same_none n1.sub hp) upd_same r1⟩⟩⟩
theorem e_p2 {n : Nat} (ha : E X G a s x) (hb : E X G b t y) (hs : starEach [a, b] X.env = (false, eval a X.env) :: starEach [b] X.env := by rfl) (hs2 : starEach [b] X.env = (false, eval b X.env) :: starEach [] X.env := by rfl) : E X G (.Tuple [a, b] n pos) (tP2 s t) (x, y) := ⟨fun S Q k =>
  ⟨_, pe_tup (pa_cons pe_w (pa_cons pe_w pa_nil hs2) hs), ha.run S _ fun v M1 H1 n1 r1 => hb.run (S.next n1) _ fun w M2 H2 n2 r2 => ⟨by show 2 ≤ sizeLine; decide, fun p hp => by
    have nn := Nx.new (o := .tup [v, w]) n2.sub hp
    exact k _ _ _ ((n1.trans n2).trans nn) ⟨p, v, w, rfl, .inl (.inl upd_same), s.ext (n2.vx.trans nn.vx) r1, t.ext nn.vx r2⟩⟩⟩⟩
theorem e_p3 {n : Nat} (ha : E X G a s x) (hb : E X G b t y) (hc : E X G c u z) (hs : starEach [a, b, c] X.env = (false, eval a X.env) :: starEach [b, c] X.env := by rfl) (hs2 : starEach [b, c] X.env = (false, eval b X.env) :: starEach [c] X.env := by rfl) (hs3 : starEach [c] X.env = (false, eval c X.env) :: starEach [] X.env := by rfl) : E X G (.Tuple [a, b, c] n pos) (tP3 s t u) (x, y, z) := ⟨fun S Q k =>
  ⟨_, pe_tup (pa_cons pe_w (pa_cons pe_w (pa_cons pe_w pa_nil hs3) hs2) hs), ha.run S _ fun v M1 H1 n1 r1 => hb.run (S.next n1) _ fun w M2 H2 n2 r2 => hc.run (S.next (n1.trans n2)) _ fun w3 M3 H3 n3 r3 => ⟨by show 3 ≤ sizeLine; decide, fun p hp => by
    have nn := Nx.new (o := .tup [v, w, w3]) n3.sub hp
    exact k _ _ _ (((n1.trans n2).trans n3).trans nn) ⟨p, v, w, w3, rfl, .inl (.inl upd_same), s.ext ((n2.vx.trans n3.vx).trans nn.vx) r1, t.ext (n3.vx.trans nn.vx) r2, u.ext nn.vx r3⟩⟩⟩⟩
theorem e_p4 {δ : Type} {t4 : Ty δ} {w0 : δ} {d : Expr} {n : Nat} (ha : E X G a s x) (hb : E X G b t y) (hc : E X G c u z) (hd : E X G d t4 w0) (hs : starEach [a, b, c, d] X.env = (false, eval a X.env) :: starEach [b, c, d] X.env := by rfl) (hs2 : starEach [b, c, d] X.env = (false, eval b X.env) :: starEach [c, d] X.env := by rfl) (hs3 : starEach [c, d] X.env = (false, eval c X.env) :: starEach [d] X.env := by rfl) (hs4 : starEach [d] X.env = (false, eval d X.env) :: starEach [] X.env := by rfl) : E X G (.Tuple [a, b, c, d] n pos) (tP4 s t u t4) (x, y, z, w0) := ⟨fun S Q k =>
  ⟨_, pe_tup (pa_cons pe_w (pa_cons pe_w (pa_cons pe_w (pa_cons pe_w pa_nil hs4) hs3) hs2) hs), ha.run S _ fun v M1 H1 n1 r1 => hb.run (S.next n1) _ fun w M2 H2 n2 r2 => hc.run (S.next (n1.trans n2)) _ fun w3 M3 H3 n3 r3 => hd.run (S.next ((n1.trans n2).trans n3)) _ fun w4 M4 H4 n4 r4 => ⟨by show 4 ≤ sizeLine; decide, fun p hp => by
    have nn := Nx.new (o := .tup [v, w, w3, w4]) n4.sub hp
    exact k _ _ _ ((((n1.trans n2).trans n3).trans n4).trans nn) ⟨p, v, w, w3, w4, rfl, .inl (.inl upd_same), s.ext (((n2.vx.trans n3.vx).trans n4.vx).trans nn.vx) r1, t.ext ((n3.vx.trans n4.vx).trans nn.vx) r2, u.ext (n4.vx.trans nn.vx) r3, t4.ext nn.vx r4⟩⟩⟩⟩
end
end TL

namespace TL
open PySem L2

/-! ### lists as they are indexed and cut -/
section
variable {α β : Type}
/-- xs[i], any sign -/
def ix [Inhabited α] (xs : List α) (i : Int) : α := (atI xs i).getD default
theorem atI_pos {xs : List α} {i : Int} (h0 : 0 ≤ i) (h1 : i < xs.length) : ∃ x, xs[i.toNat]? = some x ∧ atI xs i = some x := by
  have hl : i.toNat < xs.length := by omega
  refine ⟨xs[i.toNat], List.getElem?_eq_getElem hl, ?_⟩
  have := atI_nat (List.getElem?_eq_getElem hl)
  rw [Int.toNat_of_nonneg h0] at this
  exact this
theorem atI_neg {xs : List α} {i : Int} (h0 : i < 0) (h1 : -(xs.length : Int) ≤ i) : ∃ x, xs[(i + xs.length).toNat]? = some x ∧ atI xs i = some x := by
  have hl : (i + xs.length).toNat < xs.length := by omega
  refine ⟨xs[(i + xs.length).toNat], List.getElem?_eq_getElem hl, ?_⟩
  unfold atI ixN
  rw [if_neg (by omega), if_pos h1]
  simp only [Option.bind_some]
  exact List.getElem?_eq_getElem hl
theorem atI_ix [Inhabited α] {xs : List α} {i : Int} (h0 : -(xs.length : Int) ≤ i) (h1 : i < xs.length) : atI xs i = some (ix xs i) := by
  unfold ix
  rcases Int.lt_or_le i 0 with h | h
  · obtain ⟨x, _, q⟩ := atI_neg h h0; rw [q]; rfl
  · obtain ⟨x, _, q⟩ := atI_pos h h1; rw [q]; rfl
theorem ix_pos [Inhabited α] {xs : List α} {i : Int} (h0 : 0 ≤ i) (h1 : i < xs.length) : xs[i.toNat]? = some (ix xs i) := by
  obtain ⟨x, q1, q2⟩ := atI_pos h0 h1
  unfold ix; rw [q2, q1]; rfl
theorem ix_mem [Inhabited α] {xs : List α} {i : Int} (h0 : 0 ≤ i) (h1 : i < xs.length) : ix xs i ∈ xs := List.mem_of_getElem? (ix_pos h0 h1)
theorem atI_paired {F : V → α → Prop} {vs : List V} {xs : List α} {i : Int} {x : α} (p : Paired F vs xs) (h : atI xs i = some x) : ∃ v, atI vs i = some v ∧ F v x := by
  unfold atI at h ⊢
  rw [p.length]
  cases e : ixN xs.length i with
  | none => rw [e] at h; cases h
  | some j =>
    rw [e] at h
    obtain ⟨v, h1, h2⟩ := paired_get p (show xs[j]? = some x from h)
    exact ⟨v, h1, h2⟩
/-- xs[lo:hi] -/
def cut (xs : List α) (lo hi : Option Int) : List α := (xs.drop (HT.sIx xs.length 0 lo)).take (HT.sIx xs.length xs.length hi - HT.sIx xs.length 0 lo)
theorem cut_paired {F : V → α → Prop} {vs : List V} {xs : List α} (lo hi : Option Int) (p : Paired F vs xs) : Paired F (cutV vs lo hi) (cut xs lo hi) := by
  unfold cutV cut
  rw [p.length]
  exact paired_take _ (paired_drop _ p)
end

section
variable {α β γ : Type} {X : Cx} {G : List Sl} {a b c e : Expr} {es rest : List Expr} {s : Ty α} {t : Ty β} {u : Ty γ} {x : α} {y : β} {z : γ} {pos : Pos} {i j : Int} {xs ys : List α} {p q : Bool}
/-! ### subscripts -/
theorem e_ixT (ha : E X G a (tTup s) xs) (hb : E X G b tI i) (h : atI xs i = some x) (hs : PlainIx b := by exact fun _ _ => rfl) : E X G (.Subscript a b pos) s x := ⟨fun S Q k =>
  ⟨_, pe_ix ix_tup pe_w pe_w hs, ha.run S _ fun v M1 H1 n1 r1 => hb.run (S.next n1) _ fun w M2 H2 n2 r2 => by
    obtain ⟨p, vs, e1, e2, e3⟩ := r1
    obtain ⟨v', g1, g2⟩ := atI_paired e3 h
    exact ⟨p, vs, i, v', e1, r2, sqT_ext (n2.vx.trans n2.sub) e2, g1, k v' M2 H2 (n1.trans n2) (s.ext n2.vx g2)⟩⟩⟩
theorem e_ixL (ha : E X G a (tLst s) xs) (hb : E X G b tI i) (h : atI xs i = some x) (hs : PlainIx b := by exact fun _ _ => rfl) : E X G (.Subscript a b pos) s x := ⟨fun S Q k =>
  ⟨_, pe_ix ix_list pe_w pe_w hs, ha.run S _ fun v M1 H1 n1 r1 => hb.run (S.next n1) _ fun w M2 H2 n2 r2 => by
    obtain ⟨p, vs, e1, e2, e3⟩ := r1
    obtain ⟨v', g1, g2⟩ := atI_paired e3 h
    exact ⟨p, vs, i, v', e1, r2, SqL.of (n2.sub _ _ (n2.vx _ _ e2)), g1, k v' M2 H2 (n1.trans n2) (s.ext n2.vx g2)⟩⟩⟩
theorem e_ixS (ha : E X G a (tSq s) xs) (hb : E X G b tI i) (h : atI xs i = some x) (hs : PlainIx b := by exact fun _ _ => rfl) : E X G (.Subscript a b pos) s x := ⟨fun S Q k =>
  ⟨_, pe_ix ix_list pe_w pe_w hs, ha.run S _ fun v M1 H1 n1 r1 => hb.run (S.next n1) _ fun w M2 H2 n2 r2 => by
    obtain ⟨p, vs, e1, e2, e3⟩ := r1
    obtain ⟨v', g1, g2⟩ := atI_paired e3 h
    exact ⟨p, vs, i, v', e1, r2, sqL_ext (n2.vx.trans n2.sub) e2, g1, k v' M2 H2 (n1.trans n2) (s.ext n2.vx g2)⟩⟩⟩
theorem e_2a {w : α × β} (ha : E X G a (tP2 s t) w) (hb : E X G b tI 0) (hs : PlainIx b := by exact fun _ _ => rfl) : E X G (.Subscript a b pos) s w.1 := ⟨fun S Q k =>
  ⟨_, pe_ix ix_tup pe_w pe_w hs, ha.run S _ fun v M1 H1 n1 r1 => hb.run (S.next n1) _ fun w M2 H2 n2 r2 => by
    obtain ⟨p, v1, v2, e1, e2, e3, e4⟩ := r1
    exact ⟨p, _, 0, v1, e1, r2, sqT_ext (n2.vx.trans n2.sub) e2, rfl, k v1 M2 H2 (n1.trans n2) (s.ext n2.vx e3)⟩⟩⟩
theorem e_2b {w : α × β} (ha : E X G a (tP2 s t) w) (hb : E X G b tI 1) (hs : PlainIx b := by exact fun _ _ => rfl) : E X G (.Subscript a b pos) t w.2 := ⟨fun S Q k =>
  ⟨_, pe_ix ix_tup pe_w pe_w hs, ha.run S _ fun v M1 H1 n1 r1 => hb.run (S.next n1) _ fun w M2 H2 n2 r2 => by
    obtain ⟨p, v1, v2, e1, e2, e3, e4⟩ := r1
    exact ⟨p, _, 1, v2, e1, r2, sqT_ext (n2.vx.trans n2.sub) e2, rfl, k v2 M2 H2 (n1.trans n2) (t.ext n2.vx e4)⟩⟩⟩
theorem e_4a {δ : Type} {t4 : Ty δ} {w : α × β × γ × δ} (ha : E X G a (tP4 s t u t4) w) (hb : E X G b tI 0) (hs : PlainIx b := by exact fun _ _ => rfl) : E X G (.Subscript a b pos) s w.1 := ⟨fun S Q k =>
  ⟨_, pe_ix ix_tup pe_w pe_w hs, ha.run S _ fun v M1 H1 n1 r1 => hb.run (S.next n1) _ fun w' M2 H2 n2 r2 => by
    obtain ⟨p, v1, v2, v3, v4, e1, e2, e3, e4, e5, e6⟩ := r1
    exact ⟨p, _, 0, v1, e1, r2, sqT_ext (n2.vx.trans n2.sub) e2, rfl, k v1 M2 H2 (n1.trans n2) (s.ext n2.vx e3)⟩⟩⟩
theorem e_4b {δ : Type} {t4 : Ty δ} {w : α × β × γ × δ} (ha : E X G a (tP4 s t u t4) w) (hb : E X G b tI 1) (hs : PlainIx b := by exact fun _ _ => rfl) : E X G (.Subscript a b pos) t w.2.1 := ⟨fun S Q k =>
  ⟨_, pe_ix ix_tup pe_w pe_w hs, ha.run S _ fun v M1 H1 n1 r1 => hb.run (S.next n1) _ fun w' M2 H2 n2 r2 => by
    obtain ⟨p, v1, v2, v3, v4, e1, e2, e3, e4, e5, e6⟩ := r1
    exact ⟨p, _, 1, v2, e1, r2, sqT_ext (n2.vx.trans n2.sub) e2, rfl, k v2 M2 H2 (n1.trans n2) (t.ext n2.vx e4)⟩⟩⟩
theorem e_4c {δ : Type} {t4 : Ty δ} {w : α × β × γ × δ} (ha : E X G a (tP4 s t u t4) w) (hb : E X G b tI 2) (hs : PlainIx b := by exact fun _ _ => rfl) : E X G (.Subscript a b pos) u w.2.2.1 := ⟨fun S Q k =>
  ⟨_, pe_ix ix_tup pe_w pe_w hs, ha.run S _ fun v M1 H1 n1 r1 => hb.run (S.next n1) _ fun w' M2 H2 n2 r2 => by
    obtain ⟨p, v1, v2, v3, v4, e1, e2, e3, e4, e5, e6⟩ := r1
    exact ⟨p, _, 2, v3, e1, r2, sqT_ext (n2.vx.trans n2.sub) e2, rfl, k v3 M2 H2 (n1.trans n2) (u.ext n2.vx e5)⟩⟩⟩
theorem e_4d {δ : Type} {t4 : Ty δ} {w : α × β × γ × δ} (ha : E X G a (tP4 s t u t4) w) (hb : E X G b tI 3) (hs : PlainIx b := by exact fun _ _ => rfl) : E X G (.Subscript a b pos) t4 w.2.2.2 := ⟨fun S Q k =>
  ⟨_, pe_ix ix_tup pe_w pe_w hs, ha.run S _ fun v M1 H1 n1 r1 => hb.run (S.next n1) _ fun w' M2 H2 n2 r2 => by
    obtain ⟨p, v1, v2, v3, v4, e1, e2, e3, e4, e5, e6⟩ := r1
    exact ⟨p, _, 3, v4, e1, r2, sqT_ext (n2.vx.trans n2.sub) e2, rfl, k v4 M2 H2 (n1.trans n2) (t4.ext n2.vx e6)⟩⟩⟩
/-- parts of a slice -/
structure EO (X : Cx) (G : List Sl) (e : Option Expr) (o : Option Int) : Prop where
  run : ∀ {M0 H0 M H : Hp} {σ : L2.St}, St X.K M0 H0 M H σ G → ∀ (Q : Option Int → Hp → Prop), (∀ M' H', Nx M H M' H' → Q o H') → ∃ te, PO X e te ∧ te σ H Q
theorem eo_none : EO X G none none := ⟨fun {M0 H0 M H σ} S Q k => ⟨_, po_none, k M H (Nx.refl S.sub)⟩⟩
theorem eo_some (h : E X G e tI i) : EO X G (some e) (some i) := ⟨fun S Q k => ⟨_, po_some pe_w, h.run S _ fun v M1 H1 n1 r1 => ⟨i, r1, k M1 H1 n1⟩⟩⟩
def wO (X : Cx) (e : Option Expr) : TO := fun σ H Q => ∃ te, PO X e te ∧ te σ H Q
theorem po_w {e : Option Expr} : PO X e (wO X e) := ⟨fun pins s σ H Q I ⟨_, p, h⟩ => p.run pins s σ H Q I h⟩
theorem el_slice {lo hi : Option Expr} {l h : Option Int} {p2 : Pos} (ha : E X G a (tLst s) xs) (hl : EO X G lo l) (hh : EO X G hi h) : EL X G (.Subscript a (.Slice lo hi none p2) pos) s (cut xs l h) := ⟨fun S Q k =>
  ⟨_, pe_slice sl_list pe_w po_w po_w, ha.run S _ fun v M1 H1 n1 r1 => hl.run (S.next n1) _ fun M2 H2 n2 => hh.run (S.next (n1.trans n2)) _ fun M3 H3 n3 => by
    obtain ⟨p, vs, e1, e2, e3⟩ := r1
    have vx := n2.vx.trans n3.vx
    have n := (n1.trans n2).trans n3
    exact ⟨p, vs, e1, SqL.of (n3.sub _ _ (vx _ _ e2)), fun r hr => k r M3 _ _ ⟨n.ex.trans (same_new hr), n.vx, n.sub.trans (same_new hr), n.fr⟩ (n.ex.free hr) (same_none n.sub hr) upd_same (cut_paired l h (paired_imp (fun _ _ q => s.ext vx q) e3))⟩⟩⟩
theorem cut_whole {xs : List α} {l h : Option Int} (h1 : HT.sIx xs.length 0 l = 0) (h2 : HT.sIx xs.length xs.length h = xs.length) : cut xs l h = xs := by
  unfold cut; rw [h1, h2]; simp
theorem e_sliceT {lo hi : Option Expr} {l h : Option Int} {p2 : Pos} (ha : E X G a (tTup s) xs) (hl : EO X G lo l) (hh : EO X G hi h) : E X G (.Subscript a (.Slice lo hi none p2) pos) (tTup s) (cut xs l h) := ⟨fun S Q k =>
  ⟨_, pe_slice sl_tupA pe_w po_w po_w, ha.run S _ fun v M1 H1 n1 r1 => hl.run (S.next n1) _ fun M2 H2 n2 => hh.run (S.next (n1.trans n2)) _ fun M3 H3 n3 => by
    obtain ⟨p, vs, e1, e2, e3⟩ := r1
    have vx := n2.vx.trans n3.vx
    have n := (n1.trans n2).trans n3
    have hlen := e3.length
    refine ⟨p, vs, e1, sqT_ext (vx.trans n3.sub) e2, fun ⟨w1, w2⟩ => ?_, fun _ r hr => ?_⟩
    · rw [hlen] at w1 w2
      refine k _ M3 H3 n ⟨p, vs, rfl, sqT_ext vx e2, ?_⟩
      rw [cut_whole w1 w2]
      exact paired_imp (fun _ _ q => s.ext vx q) e3
    · exact k _ _ _ (n.trans (Nx.new n3.sub hr)) ⟨r, _, rfl, .inl (.inl upd_same), cut_paired l h (paired_imp (fun _ _ q => s.ext (vx.trans (same_new (same_none n3.sub hr))) q) e3)⟩⟩⟩
/-- t + u of tuples -/
theorem e_catT (ha : E X G a (tTup s) xs) (hb : E X G b (tTup s) ys) (h0 : xs ≠ []) (hz : xs.length + ys.length ≤ 1000000) : E X G (.BinOp a .Add b pos) (tTup s) (xs ++ ys) := e_op2 op_catT ha hb fun M H v w Q m h1 h2 k => by
  obtain ⟨p, vs, e1, e2, e3⟩ := h1
  obtain ⟨q, ws, f1, f2, f3⟩ := h2
  have l1 := e3.length
  have l2 := f3.length
  refine ⟨p, q, vs, ws, e1, f1, sqT_ext m e2, sqT_ext m f2, fun z => h0 ?_, by rw [l1, l2]; exact Nat.le_trans hz (by decide), fun z => ?_, fun _ r hr => ?_⟩
  · rw [z] at l1
    exact List.eq_nil_of_length_eq_zero l1.symm
  · have : ys = [] := by rw [z] at l2; exact List.eq_nil_of_length_eq_zero l2.symm
    rw [this, List.append_nil] at k
    exact k _ M H (Nx.refl m) ⟨p, vs, rfl, e2, e3⟩
  · exact k _ _ _ (Nx.new m hr) ⟨r, _, rfl, .inl (.inl upd_same), paired_imp (fun _ _ q => s.ext (same_new (same_none m hr)) q) (paired_app e3 f3)⟩
theorem nx_lay {M H : Hp} (m : Same M H) {p : Addr} {o : HO} (hp : H p = none) : Nx M H M (upd H p o) := ⟨same_new hp, Same.refl _, m.trans (same_new hp), fun _ q _ => q⟩
/-- xs + ys, xs * n of lists -/
theorem el_cat (ha : E X G a (tLst s) xs) (hb : E X G b (tLst s) ys) (hz : xs.length + ys.length ≤ 1000000) : EL X G (.BinOp a .Add b pos) s (xs ++ ys) := el_op2 op_cat ha hb fun M H v w Q m h1 h2 k => by
  obtain ⟨p, vs, e1, e2, e3⟩ := h1
  obtain ⟨q, ws, f1, f2, f3⟩ := h2
  refine ⟨p, q, vs, ws, e1, f1, m _ _ e2, m _ _ f2, by rw [e3.length, f3.length]; exact Nat.le_trans hz (by decide), fun r hr => ?_⟩
  exact k r M _ _ (nx_lay m hr) hr (same_none m hr) upd_same (paired_app e3 f3)
theorem paired_rep {F : V → α → Prop} {vs : List V} {xs : List α} (p : Paired F vs xs) : ∀ n : Nat, Paired F (List.replicate n vs).flatten (List.replicate n xs).flatten
  | 0 => .nil
  | n + 1 => by
    rw [List.replicate_succ, List.replicate_succ, List.flatten_cons, List.flatten_cons]
    exact paired_app p (paired_rep p n)
theorem rep_len (n : Nat) (xs : List α) : (List.replicate n xs).flatten.length = n * xs.length := by
  induction n with
  | zero => simp
  | succ n ih => rw [List.replicate_succ, List.flatten_cons, List.length_append, ih, Nat.succ_mul]; omega
theorem el_rep (ha : E X G a (tLst s) xs) (hb : E X G b tI i) (h1 : -1000000 ≤ i ∧ i ≤ 1000000) (hz : xs.length * i.toNat ≤ 1000000) : EL X G (.BinOp a .Mult b pos) s (List.replicate i.toNat xs).flatten := el_op2 op_rep ha hb fun M H v w Q m q1 q2 k => by
  obtain ⟨p, vs, e1, e2, e3⟩ := q1
  refine ⟨p, i, vs, e1, q2, m _ _ e2, by omega, by omega, by rw [e3.length]; exact Nat.le_trans hz (by decide), fun r hr => ?_⟩
  exact k r M _ _ (nx_lay m hr) hr (same_none m hr) upd_same (paired_rep e3 _)

/-! ### built-ins -/
def wC1 (X : Cx) (id : String) : List V → Hp → VK → Prop := fun vs H Q => ∃ r, CallR X (.builtin id) r ∧ r vs H Q
theorem e_cb {n : Str} {id : String} {r : List V → Hp → VK → Prop} {ss : List Sl} (hc : CallR X (.builtin id) r) (ha : EA X G (e :: es) ss) (hm : X.mg n = none)
    (hr : ∀ (M H : Hp) (vs : List V) (Q : VK), Same M H → Reps X.K M vs ss → (∀ v M' H', Nx M H M' H' → u.rep X.K M' v z → Q v H') → r vs H Q)
    (hv : bootBuiltins n = some (.builtin id) := by decide +kernel) (hg : Gl X n := by rfl) (hn : n ≠ "__name__" := by decide) (hdb : (n == ("__debug__" : Str)) = false := by decide)
    (he : starEach (e :: es) X.env = (false, eval e X.env) :: starEach es X.env := by rfl) (hpl : (backTo pos (starEach es X.env)).any (·.1) = false := by rfl) {p : Pos} : E X G (.Call (.Name n p) (e :: es) [] pos) u z := ⟨fun S Q k =>
  ⟨_, pe_callB hc hg hm hv pa_w hn hdb he hpl, ha.run S _ fun vs M1 H1 n1 r1 => hr M1 H1 vs Q n1.sub r1 fun v M2 H2 n2 r2 => k v M2 H2 (n1.trans n2) r2⟩⟩
theorem e_ct {n : Str} {T : String} {r : List V → Hp → VK → Prop} {ss : List Sl} (hc : CallR X (.type T) r) (ha : EA X G (e :: es) ss) (hm : X.mg n = none)
    (hr : ∀ (M H : Hp) (vs : List V) (Q : VK), Same M H → Reps X.K M vs ss → (∀ v M' H', Nx M H M' H' → u.rep X.K M' v z → Q v H') → r vs H Q)
    (hv : bootBuiltins n = some (.type T) := by decide +kernel) (hg : Gl X n := by rfl) (hn : n ≠ "__name__" := by decide) (hdb : (n == ("__debug__" : Str)) = false := by decide)
    (he : starEach (e :: es) X.env = (false, eval e X.env) :: starEach es X.env := by rfl) (hpl : (backTo pos (starEach es X.env)).any (·.1) = false := by rfl) {p : Pos} : E X G (.Call (.Name n p) (e :: es) [] pos) u z := ⟨fun S Q k =>
  ⟨_, pe_callTy hc hg hm hv pa_w hn hdb he hpl, ha.run S _ fun vs M1 H1 n1 r1 => hr M1 H1 vs Q n1.sub r1 fun v M2 H2 n2 r2 => k v M2 H2 (n1.trans n2) r2⟩⟩
theorem el_ct {n : Str} {T : String} {r : List V → Hp → VK → Prop} {ss : List Sl} {zs : List γ} (hc : CallR X (.type T) r) (ha : EA X G (e :: es) ss) (hm : X.mg n = none)
    (hr : ∀ (M H : Hp) (vs : List V) (Q : VK), Same M H → Reps X.K M vs ss → (∀ p M' H' ws, Nx M H M' H' → H p = none → M' p = none → H' p = some (.lst ws) → Paired (u.rep X.K M') ws zs → Q (.ref p) H') → r vs H Q)
    (hv : bootBuiltins n = some (.type T) := by decide +kernel) (hg : Gl X n := by rfl) (hn : n ≠ "__name__" := by decide) (hdb : (n == ("__debug__" : Str)) = false := by decide)
    (he : starEach (e :: es) X.env = (false, eval e X.env) :: starEach es X.env := by rfl) (hpl : (backTo pos (starEach es X.env)).any (·.1) = false := by rfl) {p : Pos} : EL X G (.Call (.Name n p) (e :: es) [] pos) u zs := ⟨fun S Q k =>
  ⟨_, pe_callTy hc hg hm hv pa_w hn hdb he hpl, ha.run S _ fun vs M1 H1 n1 r1 => hr M1 H1 vs Q n1.sub r1 fun p M2 H2 ws n2 hp mp hh r2 => k p M2 H2 ws (n1.trans n2) (n1.ex.free hp) mp hh r2⟩⟩
theorem el_cb {n : Str} {id : String} {r : List V → Hp → VK → Prop} {ss : List Sl} {zs : List γ} (hc : CallR X (.builtin id) r) (ha : EA X G (e :: es) ss) (hm : X.mg n = none)
    (hr : ∀ (M H : Hp) (vs : List V) (Q : VK), Same M H → Reps X.K M vs ss → (∀ p M' H' ws, Nx M H M' H' → H p = none → M' p = none → H' p = some (.lst ws) → Paired (u.rep X.K M') ws zs → Q (.ref p) H') → r vs H Q)
    (hv : bootBuiltins n = some (.builtin id) := by decide +kernel) (hg : Gl X n := by rfl) (hn : n ≠ "__name__" := by decide) (hdb : (n == ("__debug__" : Str)) = false := by decide)
    (he : starEach (e :: es) X.env = (false, eval e X.env) :: starEach es X.env := by rfl) (hpl : (backTo pos (starEach es X.env)).any (·.1) = false := by rfl) {p : Pos} : EL X G (.Call (.Name n p) (e :: es) [] pos) u zs := ⟨fun S Q k =>
  ⟨_, pe_callB hc hg hm hv pa_w hn hdb he hpl, ha.run S _ fun vs M1 H1 n1 r1 => hr M1 H1 vs Q n1.sub r1 fun p M2 H2 ws n2 hp mp hh r2 => k p M2 H2 ws (n1.trans n2) (n1.ex.free hp) mp hh r2⟩⟩
end
theorem reps1 {K : Fg} {M : Hp} {α : Type} {t : Ty α} {x : α} {vs : List V} (h : Reps K M vs [.vl t x]) : ∃ v, vs = [v] ∧ t.rep K M v x := by
  cases h with
  | cons h r => cases r; exact ⟨_, rfl, h⟩
theorem reps2 {K : Fg} {M : Hp} {α β : Type} {t : Ty α} {x : α} {s : Ty β} {y : β} {vs : List V} (h : Reps K M vs [.vl t x, .vl s y]) : ∃ v w, vs = [v, w] ∧ t.rep K M v x ∧ s.rep K M w y := by
  cases h with
  | cons h r => cases r with | cons h' r' => cases r'; exact ⟨_, _, rfl, h, h'⟩
section
variable {α β γ : Type} {X : Cx} {G : List Sl} {a b c e : Expr} {es rest : List Expr} {s : Ty α} {t : Ty β} {u : Ty γ} {x : α} {y : β} {z : γ} {pos : Pos} {i j : Int} {xs ys : List α} {p q : Bool}
section
variable {h1 : starEach [a] X.env = (false, eval a X.env) :: starEach [] X.env}
theorem e_lenT {p : Pos} (hm : X.mg "len" = none) (ha : E X G a (tTup s) xs) (hg : Gl X "len" := by rfl) (he : starEach [a] X.env = (false, eval a X.env) :: starEach [] X.env := by rfl) : E X G (.Call (.Name "len" p) [a] [] pos) tI (xs.length : Int) :=
  e_cb call_len_seq (ea_cons ha ea_nil he) hm (fun M H vs Q m r k => by
    obtain ⟨v, rfl, p, ws, e1, e2, e3⟩ := reps1 r
    exact ⟨p, ws, by rw [e1], .inr (sqT_ext m e2), by rw [e3.length]; exact k _ M H (Nx.refl m) rfl⟩) PySem.boot_len hg (by decide) (by decide) he
theorem e_lenL {p : Pos} (hm : X.mg "len" = none) (ha : E X G a (tLst s) xs) (hg : Gl X "len" := by rfl) (he : starEach [a] X.env = (false, eval a X.env) :: starEach [] X.env := by rfl) : E X G (.Call (.Name "len" p) [a] [] pos) tI (xs.length : Int) :=
  e_cb call_len_seq (ea_cons ha ea_nil he) hm (fun M H vs Q m r k => by
    obtain ⟨v, rfl, p, ws, e1, e2, e3⟩ := reps1 r
    exact ⟨p, ws, by rw [e1], .inl (SqL.of (m _ _ e2)), by rw [e3.length]; exact k _ M H (Nx.refl m) rfl⟩) PySem.boot_len hg (by decide) (by decide) he
theorem e_lenS {p : Pos} (hm : X.mg "len" = none) (ha : E X G a (tSq s) xs) (hg : Gl X "len" := by rfl) (he : starEach [a] X.env = (false, eval a X.env) :: starEach [] X.env := by rfl) : E X G (.Call (.Name "len" p) [a] [] pos) tI (xs.length : Int) :=
  e_cb call_len_seq (ea_cons ha ea_nil he) hm (fun M H vs Q m r k => by
    obtain ⟨v, rfl, p, ws, e1, e2, e3⟩ := reps1 r
    exact ⟨p, ws, by rw [e1], .inl (sqL_ext m e2), by rw [e3.length]; exact k _ M H (Nx.refl m) rfl⟩) PySem.boot_len hg (by decide) (by decide) he
theorem e_intI {p : Pos} (hm : X.mg "int" = none) (ha : E X G a tI i) (hg : Gl X "int" := by rfl) (he : starEach [a] X.env = (false, eval a X.env) :: starEach [] X.env := by rfl) : E X G (.Call (.Name "int" p) [a] [] pos) tI i :=
  e_ct call_int1 (ea_cons ha ea_nil he) hm (fun M H vs Q m r k => by
    obtain ⟨v, rfl, e1⟩ := reps1 r
    exact .inl ⟨i, by rw [show v = V.int i from e1], k _ M H (Nx.refl m) rfl⟩) (by decide +kernel) hg (by decide) (by decide) he
theorem e_intB {p : Pos} {d : Bool} (hm : X.mg "int" = none) (ha : E X G a tB d) (hg : Gl X "int" := by rfl) (he : starEach [a] X.env = (false, eval a X.env) :: starEach [] X.env := by rfl) : E X G (.Call (.Name "int" p) [a] [] pos) tI (if d then 1 else 0) :=
  e_ct call_int1 (ea_cons ha ea_nil he) hm (fun M H vs Q m r k => by
    obtain ⟨v, rfl, e1⟩ := reps1 r
    exact .inr ⟨d, by rw [show v = V.bl d from e1], k _ M H (Nx.refl m) rfl⟩) (by decide +kernel) hg (by decide) (by decide) he
theorem e_strI {p : Pos} (hm : X.mg "str" = none) (ha : E X G a tI i) (hi : i.natAbs.log2 < 1920) (hg : Gl X "str" := by rfl) (he : starEach [a] X.env = (false, eval a X.env) :: starEach [] X.env := by rfl) : E X G (.Call (.Name "str" p) [a] [] pos) tS (toString i) :=
  e_ct call_str_int (ea_cons ha ea_nil he) hm (fun M H vs Q m r k => by
    obtain ⟨v, rfl, e1⟩ := reps1 r
    exact ⟨i, by rw [show v = V.int i from e1], hi, k _ M H (Nx.refl m) rfl⟩) (by decide +kernel) hg (by decide) (by decide) he
/-- max, min of two -/
theorem e_max {p : Pos} (hcm : X.calm = true) (hm : X.mg "max" = none) (ha : E X G a tI i) (hb : E X G b tI j) (hg : Gl X "max" := by rfl) (he : starEach [a, b] X.env = (false, eval a X.env) :: starEach [b] X.env := by rfl) (he2 : starEach [b] X.env = (false, eval b X.env) :: starEach [] X.env := by rfl)
    (hpl : (backTo pos (starEach [b] X.env)).any (·.1) = false := by rfl) : E X G (.Call (.Name "max" p) [a, b] [] pos) tI (if j > i then j else i) :=
  e_cb (call_max2 hcm) (ea_cons ha (ea_cons hb ea_nil he2) he) hm (fun M H vs Q m r k => by
    obtain ⟨v, w, rfl, e1, e2⟩ := reps2 r
    exact ⟨i, j, by rw [show v = V.int i from e1, show w = V.int j from e2], k _ M H (Nx.refl m) rfl⟩) (by decide +kernel) hg (by decide) (by decide) he hpl
theorem e_min {p : Pos} (hcm : X.calm = true) (hm : X.mg "min" = none) (ha : E X G a tI i) (hb : E X G b tI j) (hg : Gl X "min" := by rfl) (he : starEach [a, b] X.env = (false, eval a X.env) :: starEach [b] X.env := by rfl) (he2 : starEach [b] X.env = (false, eval b X.env) :: starEach [] X.env := by rfl)
    (hpl : (backTo pos (starEach [b] X.env)).any (·.1) = false := by rfl) : E X G (.Call (.Name "min" p) [a, b] [] pos) tI (if j < i then j else i) :=
  e_cb (call_min2 hcm) (ea_cons ha (ea_cons hb ea_nil he2) he) hm (fun M H vs Q m r k => by
    obtain ⟨v, w, rfl, e1, e2⟩ := reps2 r
    exact ⟨i, j, by rw [show v = V.int i from e1, show w = V.int j from e2], k _ M H (Nx.refl m) rfl⟩) (by decide +kernel) hg (by decide) (by decide) he hpl
/-- list(..), tuple(..) -/
theorem el_listL {p : Pos} (hm : X.mg "list" = none) (ha : E X G a (tLst s) xs) (hg : Gl X "list" := by rfl) (he : starEach [a] X.env = (false, eval a X.env) :: starEach [] X.env := by rfl) : EL X G (.Call (.Name "list" p) [a] [] pos) s xs :=
  el_ct call_list_of (ea_cons ha ea_nil he) hm (fun M H vs Q m r k => by
    obtain ⟨v, rfl, p, ws, e1, e2, e3⟩ := reps1 r
    exact ⟨p, ws, by rw [e1], .inl (SqL.of (m _ _ e2)), fun l hl => k l M _ ws (nx_lay m hl) hl (same_none m hl) upd_same e3⟩) (by decide +kernel) hg (by decide) (by decide) he
theorem el_listT {p : Pos} (hm : X.mg "list" = none) (ha : E X G a (tTup s) xs) (hg : Gl X "list" := by rfl) (he : starEach [a] X.env = (false, eval a X.env) :: starEach [] X.env := by rfl) : EL X G (.Call (.Name "list" p) [a] [] pos) s xs :=
  el_ct call_list_of (ea_cons ha ea_nil he) hm (fun M H vs Q m r k => by
    obtain ⟨v, rfl, p, ws, e1, e2, e3⟩ := reps1 r
    exact ⟨p, ws, by rw [e1], .inr (sqT_ext m e2), fun l hl => k l M _ ws (nx_lay m hl) hl (same_none m hl) upd_same e3⟩) (by decide +kernel) hg (by decide) (by decide) he
theorem e_tupL {p : Pos} (hm : X.mg "tuple" = none) (ha : E X G a (tLst s) xs) (hg : Gl X "tuple" := by rfl) (he : starEach [a] X.env = (false, eval a X.env) :: starEach [] X.env := by rfl) : E X G (.Call (.Name "tuple" p) [a] [] pos) (tTup s) xs :=
  e_ct call_tuple_of (ea_cons ha ea_nil he) hm (fun M H vs Q m r k => by
    obtain ⟨v, rfl, p, ws, e1, e2, e3⟩ := reps1 r
    exact ⟨p, ws, by rw [e1], .inl ⟨SqL.of (m _ _ e2), fun l hl => k _ _ _ (Nx.new m hl) ⟨l, ws, rfl, .inl (.inl upd_same), paired_imp (fun _ _ q => s.ext (same_new (same_none m hl)) q) e3⟩⟩⟩) (by decide +kernel) hg (by decide) (by decide) he
theorem e_tupT {p : Pos} (hm : X.mg "tuple" = none) (ha : E X G a (tTup s) xs) (hg : Gl X "tuple" := by rfl) (he : starEach [a] X.env = (false, eval a X.env) :: starEach [] X.env := by rfl) : E X G (.Call (.Name "tuple" p) [a] [] pos) (tTup s) xs :=
  e_ct call_tuple_of (ea_cons ha ea_nil he) hm (fun M H vs Q m r k => by
    obtain ⟨v, rfl, p, ws, e1, e2, e3⟩ := reps1 r
    exact ⟨p, ws, by rw [e1], .inr ⟨sqT_ext m e2, k _ M H (Nx.refl m) ⟨p, ws, rfl, e2, e3⟩⟩⟩) (by decide +kernel) hg (by decide) (by decide) he
/-- sum of a list of ints -/
theorem paired_int {M : Hp} {K : Fg} : ∀ {vs : List V} {ns : List Int}, Paired (tI.rep K M) vs ns → vs = ns.map V.int
  | _, _, .nil => rfl
  | _, _, .cons h t => by rw [List.map_cons, paired_int t]; rw [show _ = V.int _ from h]
theorem e_sum {p : Pos} {ns : List Int} (hcm : X.calm = true) (hm : X.mg "sum" = none) (ha : E X G a (tLst tI) ns) (hg : Gl X "sum" := by rfl) (he : starEach [a] X.env = (false, eval a X.env) :: starEach [] X.env := by rfl) : E X G (.Call (.Name "sum" p) [a] [] pos) tI ns.sum :=
  e_cb (cr_sum hcm) (ea_cons ha ea_nil he) hm (fun M H vs Q m r k => by
    obtain ⟨v, rfl, p, ws, e1, e2, e3⟩ := reps1 r
    have e4 := paired_int e3
    subst e4
    exact ⟨p, ns, by rw [e1], SqL.of (m _ _ e2), k _ M H (Nx.refl m) rfl⟩) (by decide +kernel) hg (by decide) (by decide) he
/-- isinstance(x, c) -/
theorem e_isi {p : Pos} {cv : V} {d : Bool} (hm : X.mg "isinstance" = none) (ha : E X G a s x) (hb : E X G b tC cv) (ht : ∀ M v, s.rep X.K M v x → ∃ ty w, ClsV cv w ∧ (∀ H, Same M H → TyX X.K H v ty) ∧ PySem.W.kitOne X.K ty w = some d) (hg : Gl X "isinstance" := by rfl)
    (he : starEach [a, b] X.env = (false, eval a X.env) :: starEach [b] X.env := by rfl) (he2 : starEach [b] X.env = (false, eval b X.env) :: starEach [] X.env := by rfl) (hpl : (backTo pos (starEach [b] X.env)).any (·.1) = false := by rfl) : E X G (.Call (.Name "isinstance" p) [a, b] [] pos) tB d :=
  e_cb call_isi (ea_cons ha (ea_cons hb ea_nil he2) he) hm (fun M H vs Q m r k => by
    obtain ⟨v, w, rfl, e1, e2⟩ := reps2 r
    obtain ⟨ty, w', h1, h2, h3⟩ := ht M v e1
    have e2' : w = cv := e2
    subst e2'
    exact ⟨v, w, ty, w', d, rfl, h1, h2 H m, h3, k _ M H (Nx.refl m) rfl⟩) (by decide +kernel) hg (by decide) (by decide) he hpl
end
end
end TL

namespace TL
open PySem L2

/-! ### statements -/
structure Out where
  nx : List Sl → Prop
  rt : Hp → V → Prop
  bk : List Sl → Prop := fun _ => False
  ct : List Sl → Prop := fun _ => False
  xc : Value → Option Addr → Hp → Prop := fun _ _ _ => False
structure Fin (K : Fg) (R : Out) (M0 H0 : Hp) (D : Ends) (E : XK) : Prop where
  nx : ∀ {M H σ G}, St K M0 H0 M H σ G → R.nx G → D.nx σ H
  rt : ∀ {M H v}, Nx M0 H0 M H → R.rt M v → D.rt v H
  bk : ∀ {M H σ G}, St K M0 H0 M H σ G → R.bk G → D.bk σ H
  ct : ∀ {M H σ G}, St K M0 H0 M H σ G → R.ct G → D.ct σ H
  xc : ∀ {M H c d}, Nx M0 H0 M H → R.xc c d M → E c d H
structure S1 (X : Cx) (G : List Sl) (st : Stmt) (R : Out) : Prop where
  run : ∀ {M0 H0 M H : Hp} {σ : L2.St} (D : Ends) (E : XK), St X.K M0 H0 M H σ G → Takes X (fun c d _ H => E c d H) → Fin X.K R M0 H0 D E → w1 X st D σ H
structure B (X : Cx) (G : List Sl) (sts : List Stmt) (R : Out) : Prop where
  run : ∀ {M0 H0 M H : Hp} {σ : L2.St} (D : Ends) (E : XK), St X.K M0 H0 M H σ G → Takes X (fun c d _ H => E c d H) → Fin X.K R M0 H0 D E → wS X sts D σ H
section
variable {α β γ : Type} {X : Cx} {G : List Sl} {a b c e : Expr} {es : List Expr} {st : Stmt} {rest th el body : List Stmt} {s : Ty α} {t : Ty β} {u : Ty γ} {x : α} {y : β} {z : γ} {pos : Pos} {i j : Int} {xs ys : List α} {p q : Bool} {R : Out}

theorem b_nil (h : R.nx G) : B X G [] R := ⟨fun {M0 H0 M H σ} D E S _ f => ⟨_, pss_nil, f.nx S h⟩⟩
theorem b_cons (h : S1 X G st { R with nx := fun G' => B X G' rest R }) : B X G (st :: rest) R := ⟨fun {M0 H0 M H σ} D E S tk f =>
  ⟨_, pss_cons ps_w pss_w, h.run { D with nx := wS X rest D } E S tk ⟨fun S' hb => hb.run D E S' tk f, f.rt, f.bk, f.ct, f.xc⟩⟩⟩
/-- .. where what follows is shown once -/
theorem b_cut (N : List Sl → Prop) (h : S1 X G st { R with nx := N }) (k : ∀ G', N G' → B X G' rest R) : B X G (st :: rest) R :=
  b_cons ⟨fun D E S tk f => h.run D E S tk ⟨fun S' hn => f.nx S' (k _ hn), f.rt, f.bk, f.ct, f.xc⟩⟩
theorem B.weak {G' : List Sl} (h : B X G' rest R) (w : Sub G G') : B X G rest R := ⟨fun D E S tk f => h.run D E (S.weak w) tk f⟩
theorem b_never {sts : List Stmt} (h : False) : B X G sts R := h.elim
theorem b_freeze (k : Nat) {s : Ty α} {xs : List α} (h : G[k]? = some (.ow s xs)) (hb : B X (G.set k (.vl (tLst s) xs)) rest R) : B X G rest R := ⟨fun D E S tk f => by
  obtain ⟨a, vs, _, _, _, S'⟩ := S.freeze h
  exact hb.run D E S' tk f⟩
theorem s_pass (h : R.nx G) : S1 X G (.Pass pos) R := ⟨fun D E S tk f => ⟨_, ps_pass, f.nx S h⟩⟩
theorem s_break (h : R.bk G) : S1 X G (.Break pos) R := ⟨fun D E S tk f => ⟨_, ps_break, f.bk S h⟩⟩
theorem s_cont (h : R.ct G) : S1 X G (.Continue pos) R := ⟨fun D E S tk f => ⟨_, ps_continue, f.ct S h⟩⟩
theorem s_doc {x : Str} {j : Nat} {pos' : Pos} (h : R.nx G) : S1 X G (.Expr (.Constant (.str x) j pos) pos') R := ⟨fun D E S tk f => ⟨_, ps_doc, f.nx S h⟩⟩
theorem s_drop (he : E X G e s x) (h : R.nx G) (hs : swapsWith e none pos.line X.env = pure false := by rfl) : S1 X G (.Expr e pos) R := ⟨fun D E S tk f =>
  ⟨_, ps_expr pe_w hs, he.run S _ fun v M1 H1 n1 r1 => f.nx (S.next n1) h⟩⟩
theorem s_ret (he : E X G e s x) (h : ∀ M v, s.rep X.K M v x → R.rt M v) : S1 X G (.Return (some e) pos) R := ⟨fun D E S tk f =>
  ⟨_, ps_ret pe_w, he.run S _ fun v M1 H1 n1 r1 => f.rt (S.nx.trans n1) (h M1 v r1)⟩⟩
theorem s_retN (h : ∀ M, R.rt M .non) : S1 X G (.Return none pos) R := ⟨fun {M0 H0 M H σ} D E S tk f => ⟨_, ps_retN, f.rt S.nx (h M)⟩⟩
theorem s_set (k : Nat) {n : Str} {pos' : Pos} (he : E X G e s x) (h : R.nx (G.set k (.vl s x))) (hN : X.N.Nodup) (hi : X.N[k]? = some n := by rfl) (hx : Loc X.env.scope n := by first | exact Or.inl rfl | exact Or.inr rfl)
    (hs : swapsWith e (some (.Name n pos')) pos.line X.env = pure false := by rfl) (hf : X.fn n = true ∨ X.env.scope.names.lookup n = some .local := by first | exact .inl rfl | exact .inr rfl) : S1 X G (.Assign [.Name n pos'] e pos) R := ⟨fun D E S tk f =>
  ⟨_, ps_set hN hi hx pe_w hs hf, he.run S _ fun v M1 H1 n1 r1 => f.nx ((S.next n1).set (s := .vl s x) r1) h⟩⟩
/-- a new list of the frame's own -/
theorem s_own (k : Nat) {n : Str} {pos' : Pos} (he : EL X G e s xs) (h : R.nx (G.set k (.ow s xs))) (hN : X.N.Nodup) (hi : X.N[k]? = some n := by rfl) (hx : Loc X.env.scope n := by first | exact Or.inl rfl | exact Or.inr rfl)
    (hs : swapsWith e (some (.Name n pos')) pos.line X.env = pure false := by rfl) (hf : X.fn n = true ∨ X.env.scope.names.lookup n = some .local := by first | exact .inl rfl | exact .inr rfl) : S1 X G (.Assign [.Name n pos'] e pos) R := ⟨fun D E S tk f =>
  ⟨_, ps_set hN hi hx pe_w hs hf, he.run S _ fun p M1 H1 vs n1 hp mp hh r1 => f.nx (S.setOwn n1 hp mp hh r1) h⟩⟩
theorem s_if (hc : T X G c p) (h1 : p = true → B X G th R) (h2 : p = false → B X G el R) : S1 X G (.If c th el pos) R := ⟨fun D E S tk f =>
  ⟨_, ps_if pt_w pss_w pss_w, hc.run S _ fun M1 H1 n1 => by
    cases p with
    | true => rw [if_pos rfl]; exact (h1 rfl).run D E (S.next n1) tk f
    | false => rw [if_neg (by decide)]; exact (h2 rfl).run D E (S.next n1) tk f⟩⟩
theorem s_aug (k : Nat) {n : Str} {pos' : Pos} (hx0 : G[k]? = some (.vl tI i)) (he : E X G e tI j) (h : R.nx (G.set k (.vl tI (i + j)))) (hN : X.N.Nodup) (hi : X.N[k]? = some n := by rfl) (hx : Loc X.env.scope n := by first | exact Or.inl rfl | exact Or.inr rfl)
    (hf : X.fn n = true ∨ X.env.scope.names.lookup n = some .local := by first | exact .inl rfl | exact .inr rfl) : S1 X G (.AugAssign (.Name n pos') .Add e pos) R := ⟨fun D E S tk f => by
  obtain ⟨v, e1, r⟩ := S.get hx0
  exact ⟨_, ps_aug hN hi hx pe_w ip_add hf, v, e1, he.run S _ fun w M1 H1 n1 r1 => ⟨i, j, r, r1, f.nx ((S.next n1).set (s := .vl tI (i + j)) rfl) h⟩⟩⟩
theorem s_augS (k : Nat) {n : Str} {pos' : Pos} (hx0 : G[k]? = some (.vl tI i)) (he : E X G e tI j) (h : R.nx (G.set k (.vl tI (i - j)))) (hN : X.N.Nodup) (hi : X.N[k]? = some n := by rfl) (hx : Loc X.env.scope n := by first | exact Or.inl rfl | exact Or.inr rfl)
    (hf : X.fn n = true ∨ X.env.scope.names.lookup n = some .local := by first | exact .inl rfl | exact .inr rfl) : S1 X G (.AugAssign (.Name n pos') .Sub e pos) R := ⟨fun D E S tk f => by
  obtain ⟨v, e1, r⟩ := S.get hx0
  exact ⟨_, ps_aug hN hi hx pe_w ip_sub hf, v, e1, he.run S _ fun w M1 H1 n1 r1 => ⟨i, j, r, r1, f.nx ((S.next n1).set (s := .vl tI (i - j)) rfl) h⟩⟩⟩
/-- xs.append(e) -/
theorem s_app (k : Nat) {n : Str} {p1 apos cpos : Pos} (h0 : G[k]? = some (.ow s xs)) (he : E X G e s x) (hz : xs.length < 1000000) (h : R.nx (G.set k (.ow s (xs ++ [x])))) (hi : X.N[k]? = some n := by rfl)
    (hv : Vis X.env.scope n := by first | exact Or.inl rfl | exact Or.inr (Or.inl rfl) | exact Or.inr (Or.inr rfl))
    (hd : (n == ("__debug__" : Str)) = false := by decide) (hcd : (n == ("__classdict__" : Str)) = false := by decide)
    (hst : starEach [e] X.env = (false, eval e X.env) :: starEach [] X.env := by rfl)
    (hbase : attributeBase (.Name n p1) "append" X.env (eval (.Name n p1) X.env) = eval (.Name n p1) X.env := by rfl)
    (hfew : ((backTo cpos (starEach [e] X.env)).all (fun x => !x.1) && (backToKw cpos (keywordEach [] X.env)).all (fun x => x.1.isSome)
      && decide ([e].length + ([] : List Keyword).length + (if ([] : List Keyword).isEmpty then 0 else 1) < 30)) = true := by rfl)
    (hline : (apos.endLine == cpos.line) = true := by rfl) (hplain : (backTo cpos (starEach [] X.env)).any (·.1) = false := by rfl)
    (hs : swapsWith (.Call (.Attribute (.Name n p1) "append" apos) [e] [] cpos) none pos.line X.env = pure false := by rfl) :
    S1 X G (.Expr (.Call (.Attribute (.Name n p1) "append" apos) [e] [] cpos) pos) R := ⟨fun D E S tk f => by
  obtain ⟨a0, vs0, e0, hh0, _, _, _⟩ := S.putOwn (ys := xs) h0
  refine ⟨_, ps_expr (pe_bm PySem.F.plainAttrs_list PySem.F.slot_list_append PySem.F.type_list_append mt_append (pe_var hi hv hd hcd) (pa_cons pe_w pa_nil hst) hbase hfew hline hst hplain) hs, ?_⟩
  refine ⟨.ref a0, e0, .inl ⟨rfl, vs0, SqL.of hh0⟩, he.run S _ fun v M1 H1 n1 r1 => ?_⟩
  have S1 := S.next n1
  obtain ⟨a, vs, e1, hh, mp, pr, upd'⟩ := S1.putOwn (ys := xs ++ [x]) h0
  rw [e0] at e1
  cases e1
  refine ⟨a0, vs, v, rfl, rfl, hh, by rw [pr.length]; exact Nat.lt_of_lt_of_le hz (by decide), f.nx (upd' _ (paired_app pr (.cons r1 .nil))) h⟩⟩
/-- xs[i] = e, xs of the frame's own -/
theorem s_seti (k : Nat) {n : Str} {p1 : Pos} {ib : Expr} {m : Nat} (h0 : G[k]? = some (.ow s xs)) (he : E X G e s x) (hib : E X G ib tI i) (hm : ixN xs.length i = some m) (h : R.nx (G.set k (.ow s (xs.set m x)))) (hi : X.N[k]? = some n := by rfl)
    (hv : Vis X.env.scope n := by first | exact Or.inl rfl | exact Or.inr (Or.inl rfl) | exact Or.inr (Or.inr rfl))
    (hd : (n == ("__debug__" : Str)) = false := by decide) (hcd : (n == ("__classdict__" : Str)) = false := by decide) {p2 : Pos}
    (ha : ∀ v, assign (.Subscript (.Name n p1) ib p2) X.env v = (do
      let ov ← holding [v] (eval (.Name n p1) X.env)
      let iv ← holding [v, ov] (eval ib X.env)
      standAt p2
      holding [v, ov, iv] (setItem ov iv v)
      release [v, ov, iv] []) := by intro _; rfl)
    (hs : swapsWithSole [.Subscript (.Name n p1) ib p2] e pos.line X.env = pure false := by rfl) (hw : swappedStores [.Subscript (.Name n p1) ib p2] e X.env = pure none := by rfl)
    (h1 : (assignEach [.Subscript (.Name n p1) ib p2] X.env).map (·.2) = [assign (.Subscript (.Name n p1) ib p2) X.env] := by rfl) :
    S1 X G (.Assign [.Subscript (.Name n p1) ib p2] e pos) R := ⟨fun D E S tk f => by
  refine ⟨_, ps_asg pe_w (pg_sub (pe_var hi hv hd hcd) pe_w set_list ha) hs hw h1, ?_⟩
  refine he.run S _ fun v M1 H1 n1 r1 => ?_
  obtain ⟨a0, vs0, e0, hh0, _, _, _⟩ := (S.next n1).putOwn (ys := xs) h0
  refine ⟨.ref a0, e0, hib.run (S.next n1) _ fun w M2 H2 n2 r2 => ?_⟩
  obtain ⟨a, vs, e1, hh, mp, pr, upd'⟩ := (S.next (n1.trans n2)).putOwn (ys := xs.set m x) h0
  rw [e0] at e1
  cases e1
  exact ⟨a0, vs, i, m, rfl, r2, hh, by rw [pr.length]; exact hm, f.nx (upd' _ (paired_set (s.ext n2.vx r1) m pr)) h⟩⟩

theorem set_same {G : List Sl} {k : Nat} {u : Sl} (h : G[k]? = some u) : G.set k u = G := by
  apply List.ext_getElem?
  intro j
  by_cases hj : k = j
  · subst hj
    rw [List.getElem?_set_self (List.getElem?_eq_some_iff.mp h).1, h]
  · rw [List.getElem?_set_ne hj]
/-- if c: x = e -/
theorem s_ifSet (k : Nat) {n : Str} {pos' pos2 : Pos} {x y : α} (h0 : G[k]? = some (.vl s x)) (ht : T X G c p) (he : p = true → E X G e s y) (h : R.nx (G.set k (.vl s (if p = true then y else x)))) (hN : X.N.Nodup) (hi : X.N[k]? = some n := by rfl) (hx : Loc X.env.scope n := by first | exact Or.inl rfl | exact Or.inr rfl)
    (hs : swapsWith e (some (.Name n pos')) pos2.line X.env = pure false := by rfl) (hf : X.fn n = true ∨ X.env.scope.names.lookup n = some .local := by first | exact .inl rfl | exact .inr rfl) : S1 X G (.If c [.Assign [.Name n pos'] e pos2] [] pos) R := by
  refine s_if ht (fun hp => ?_) (fun hp => ?_)
  · rw [if_pos hp] at h
    exact b_cons (s_set k (he hp) (b_nil h) hN hi hx hs hf)
  · rw [if_neg (by rw [hp]; decide), set_same h0] at h
    exact b_nil h
/-! ### loops -/
theorem s_forT (k : Nat) {n : Str} {pn : Pos} (I : Nat → List Sl → Prop) (G0 : List Sl) (he : E X G a (tTup s) xs) (w0 : Sub G G0) (h0 : I 0 G0)
    (hs : ∀ m x G', xs[m]? = some x → I m G' → B X (G'.set k (.vl s x)) body ⟨I (m + 1), R.rt, R.nx, I (m + 1), R.xc⟩) (hd : ∀ G', I xs.length G' → R.nx G')
    (hN : X.N.Nodup) (hcm : X.calm = true) (hi : X.N[k]? = some n := by rfl) (hx : Loc X.env.scope n := by first | exact Or.inl rfl | exact Or.inr rfl) (hf : X.fn n = true ∨ X.env.scope.names.lookup n = some .local := by first | exact .inl rfl | exact .inr rfl)
    (hp : PassesOwn (model X.prog X.w) X.A X.env X.xe := by first | exact PassesOwn.never | assumption)
    (hfs : ∀ x, foldedSetIterable a X.env x = pure x := by intro _; rfl) : S1 X G (.For (.Name n pn) a body [] pos) R := ⟨fun {M0 H0 M H σ} D E S tk f =>
  ⟨_, ps_for hp hcm (pi_tup pe_w) (pg_name (pos := pn) hN hi hx hf) pss_w hfs, he.run S _ fun v M1 H1 n1 r1 => by
    obtain ⟨p, vs, e1, e2, e3⟩ := r1
    have n0 := S.nx.trans n1
    refine ⟨p, e1, ⟨vs, sqT_ext n1.sub e2⟩, for_tup (K := X.K) (a := p) (xs := vs) (fun m σ' H' => ∃ M' G', St X.K M1 H0 M' H' σ' G' ∧ I m G') ⟨M1, G0, ((S.next n1).weak w0).rebase, h0⟩ (fun m σ' H' _ ⟨M', G', S', _⟩ => sqT_ext (S'.nx.vx.trans S'.sub) e2) ?_ ?_⟩
    · rintro m w σ' H' hm ⟨M', G', S', hI⟩
      obtain ⟨x', g1, g2⟩ := paired_get' e3 hm
      exact (hs m x' G' g1 hI).run _ E (S'.set (s := .vl s x') (v := w) (s.ext S'.nx.vx g2)) tk ⟨fun S2 h2 => ⟨_, _, S2, h2⟩, fun n2 h2 => f.rt (n0.unbase n2) h2, fun S2 h2 => f.nx (S2.unbase n0) h2, fun S2 h2 => ⟨_, _, S2, h2⟩, fun n2 h2 => f.xc (n0.unbase n2) h2⟩
    · rintro σ' H' ⟨M', G', S', hI⟩
      rw [e3.length] at hI
      exact f.nx (S'.unbase n0) (hd G' hI)⟩⟩
theorem s_forL (k : Nat) {n : Str} {pn : Pos} (I : Nat → List Sl → Prop) (G0 : List Sl) (he : E X G a (tLst s) xs) (w0 : Sub G G0) (h0 : I 0 G0)
    (hs : ∀ m x G', xs[m]? = some x → I m G' → B X (G'.set k (.vl s x)) body ⟨I (m + 1), R.rt, R.nx, I (m + 1), R.xc⟩) (hd : ∀ G', I xs.length G' → R.nx G')
    (hN : X.N.Nodup) (hcm : X.calm = true) (hi : X.N[k]? = some n := by rfl) (hx : Loc X.env.scope n := by first | exact Or.inl rfl | exact Or.inr rfl) (hf : X.fn n = true ∨ X.env.scope.names.lookup n = some .local := by first | exact .inl rfl | exact .inr rfl)
    (hp : PassesOwn (model X.prog X.w) X.A X.env X.xe := by first | exact PassesOwn.never | assumption)
    (hfs : ∀ x, foldedSetIterable a X.env x = pure x := by intro _; rfl) : S1 X G (.For (.Name n pn) a body [] pos) R := ⟨fun {M0 H0 M H σ} D E S tk f =>
  ⟨_, ps_for hp hcm (pi_list pe_w) (pg_name (pos := pn) hN hi hx hf) pss_w hfs, he.run S _ fun v M1 H1 n1 r1 => by
    obtain ⟨p, vs, e1, e2, e3⟩ := r1
    have n0 := S.nx.trans n1
    refine ⟨p, e1, ⟨vs, SqL.of (n1.sub _ _ e2)⟩, for_list (K := X.K) (a := p) (xs := vs) (fun m σ' H' => ∃ M' G', St X.K M1 H0 M' H' σ' G' ∧ I m G') ⟨M1, G0, ((S.next n1).weak w0).rebase, h0⟩ (fun m σ' H' _ ⟨M', G', S', _⟩ => SqL.of (S'.sub _ _ (S'.nx.vx _ _ e2))) ?_ ?_⟩
    · rintro m w σ' H' hm ⟨M', G', S', hI⟩
      obtain ⟨x', g1, g2⟩ := paired_get' e3 hm
      exact (hs m x' G' g1 hI).run _ E (S'.set (s := .vl s x') (v := w) (s.ext S'.nx.vx g2)) tk ⟨fun S2 h2 => ⟨_, _, S2, h2⟩, fun n2 h2 => f.rt (n0.unbase n2) h2, fun S2 h2 => f.nx (S2.unbase n0) h2, fun S2 h2 => ⟨_, _, S2, h2⟩, fun n2 h2 => f.xc (n0.unbase n2) h2⟩
    · rintro σ' H' ⟨M', G', S', hI⟩
      rw [e3.length] at hI
      exact f.nx (S'.unbase n0) (hd G' hI)⟩⟩
theorem s_forS (k : Nat) {n : Str} {pn : Pos} (I : Nat → List Sl → Prop) (G0 : List Sl) (he : E X G a (tSq s) xs) (w0 : Sub G G0) (h0 : I 0 G0)
    (hs : ∀ m x G', xs[m]? = some x → I m G' → B X (G'.set k (.vl s x)) body ⟨I (m + 1), R.rt, R.nx, I (m + 1), R.xc⟩) (hd : ∀ G', I xs.length G' → R.nx G')
    (hN : X.N.Nodup) (hcm : X.calm = true) (hi : X.N[k]? = some n := by rfl) (hx : Loc X.env.scope n := by first | exact Or.inl rfl | exact Or.inr rfl) (hf : X.fn n = true ∨ X.env.scope.names.lookup n = some .local := by first | exact .inl rfl | exact .inr rfl)
    (hp : PassesOwn (model X.prog X.w) X.A X.env X.xe := by first | exact PassesOwn.never | assumption)
    (hfs : ∀ x, foldedSetIterable a X.env x = pure x := by intro _; rfl) : S1 X G (.For (.Name n pn) a body [] pos) R := ⟨fun {M0 H0 M H σ} D E S tk f =>
  ⟨_, ps_for hp hcm (pi_list pe_w) (pg_name (pos := pn) hN hi hx hf) pss_w hfs, he.run S _ fun v M1 H1 n1 r1 => by
    obtain ⟨p, vs, e1, e2, e3⟩ := r1
    have n0 := S.nx.trans n1
    refine ⟨p, e1, ⟨vs, sqL_ext n1.sub e2⟩, for_list (K := X.K) (a := p) (xs := vs) (fun m σ' H' => ∃ M' G', St X.K M1 H0 M' H' σ' G' ∧ I m G') ⟨M1, G0, ((S.next n1).weak w0).rebase, h0⟩ (fun m σ' H' _ ⟨M', G', S', _⟩ => sqL_ext (S'.nx.vx.trans S'.sub) e2) ?_ ?_⟩
    · rintro m w σ' H' hm ⟨M', G', S', hI⟩
      obtain ⟨x', g1, g2⟩ := paired_get' e3 hm
      exact (hs m x' G' g1 hI).run _ E (S'.set (s := .vl s x') (v := w) (s.ext S'.nx.vx g2)) tk ⟨fun S2 h2 => ⟨_, _, S2, h2⟩, fun n2 h2 => f.rt (n0.unbase n2) h2, fun S2 h2 => f.nx (S2.unbase n0) h2, fun S2 h2 => ⟨_, _, S2, h2⟩, fun n2 h2 => f.xc (n0.unbase n2) h2⟩
    · rintro σ' H' ⟨M', G', S', hI⟩
      rw [e3.length] at hI
      exact f.nx (S'.unbase n0) (hd G' hI)⟩⟩
/-- for x in range(n) -/
theorem s_forR (k : Nat) {n : Str} {pn p1 p2 : Pos} (I : Nat → List Sl → Prop) (G0 : List Sl) (hm : X.mg "range" = none) (he : E X G a tI i) (hz : -4611686018427387904 ≤ i ∧ i < 4611686018427387904) (w0 : Sub G G0) (h0 : I 0 G0)
    (hs : ∀ (m : Nat) G', (m : Int) < i → I m G' → B X (G'.set k (.vl tI (m : Int))) body ⟨I (m + 1), R.rt, R.nx, I (m + 1), R.xc⟩) (hd : ∀ G', I i.toNat G' → R.nx G')
    (hN : X.N.Nodup) (hcm : X.calm = true) (hi : X.N[k]? = some n := by rfl) (hx : Loc X.env.scope n := by first | exact Or.inl rfl | exact Or.inr rfl) (hf : X.fn n = true ∨ X.env.scope.names.lookup n = some .local := by first | exact .inl rfl | exact .inr rfl)
    (hp : PassesOwn (model X.prog X.w) X.A X.env X.xe := by first | exact PassesOwn.never | assumption)
    (hg : Gl X "range" := by rfl) (hst : starEach [a] X.env = [(false, eval a X.env)] := by rfl)
    (hfs : ∀ x, foldedSetIterable (.Call (.Name "range" p1) [a] [] p2) X.env x = pure x := by intro _; rfl) : S1 X G (.For (.Name n pn) (.Call (.Name "range" p1) [a] [] p2) body [] pos) R := ⟨fun {M0 H0 M H σ} D E S tk f =>
  ⟨_, ps_for hp hcm (pi_range1 hg hm (pa_cons pe_w pa_nil hst) hst) (pg_name (pos := pn) hN hi hx hf) pss_w hfs, he.run S _ fun v M1 H1 n1 r1 => by
    have n0 := S.nx.trans n1
    refine ⟨i, by rw [show v = V.int i from r1], hz.1, hz.2, for_range (lo := 0) (n := i.toNat) (fun m σ' H' => ∃ M' G', St X.K M1 H0 M' H' σ' G' ∧ I m G') ⟨M1, G0, ((S.next n1).weak w0).rebase, h0⟩ ?_ ?_⟩
    · rintro m σ' H' hm' ⟨M', G', S', hI⟩
      have e0 : (0 : Int) + (m : Int) = (m : Int) := Int.zero_add _
      rw [e0]
      exact (hs m G' (by omega) hI).run _ E (S'.set (s := .vl tI (m : Int)) (v := .int m) rfl) tk ⟨fun S2 h2 => ⟨_, _, S2, h2⟩, fun n2 h2 => f.rt (n0.unbase n2) h2, fun S2 h2 => f.nx (S2.unbase n0) h2, fun S2 h2 => ⟨_, _, S2, h2⟩, fun n2 h2 => f.xc (n0.unbase n2) h2⟩
    · rintro σ' H' ⟨M', G', S', hI⟩
      exact f.nx (S'.unbase n0) (hd G' hI)⟩⟩
/-- for x in range(lo, n) -/
theorem s_forR2 (k : Nat) {n : Str} {pn p1 p2 : Pos} (I : Nat → List Sl → Prop) (G0 : List Sl) (hm : X.mg "range" = none) (he : E X G a tI i) (he2 : E X G b tI j) (hz : (-4611686018427387904 ≤ i ∧ i < 4611686018427387904) ∧ -4611686018427387904 ≤ j ∧ j < 4611686018427387904) (w0 : Sub G G0) (h0 : I 0 G0)
    (hs : ∀ (m : Nat) G', i + (m : Int) < j → I m G' → B X (G'.set k (.vl tI (i + m))) body ⟨I (m + 1), R.rt, R.nx, I (m + 1), R.xc⟩) (hd : ∀ G', I (j - i).toNat G' → R.nx G')
    (hN : X.N.Nodup) (hcm : X.calm = true) (hi : X.N[k]? = some n := by rfl) (hx : Loc X.env.scope n := by first | exact Or.inl rfl | exact Or.inr rfl) (hf : X.fn n = true ∨ X.env.scope.names.lookup n = some .local := by first | exact .inl rfl | exact .inr rfl)
    (hp : PassesOwn (model X.prog X.w) X.A X.env X.xe := by first | exact PassesOwn.never | assumption)
    (hg : Gl X "range" := by rfl) (hst : starEach [a, b] X.env = [(false, eval a X.env), (false, eval b X.env)] := by rfl) (hst2 : starEach [b] X.env = [(false, eval b X.env)] := by rfl)
    (hfs : ∀ x, foldedSetIterable (.Call (.Name "range" p1) [a, b] [] p2) X.env x = pure x := by intro _; rfl) : S1 X G (.For (.Name n pn) (.Call (.Name "range" p1) [a, b] [] p2) body [] pos) R := ⟨fun {M0 H0 M H σ} D E S tk f =>
  ⟨_, ps_for hp hcm (pi_range2 hg hm (pa_cons pe_w (pa_cons pe_w pa_nil hst2) (by rw [hst, hst2])) hst hst2) (pg_name (pos := pn) hN hi hx hf) pss_w hfs, he.run S _ fun v M1 H1 n1 r1 => he2.run (S.next n1) _ fun v' M2 H2 n2 r2 => by
    have n0 := S.nx.trans (n1.trans n2)
    refine ⟨i, j, by rw [show v = V.int i from r1, show v' = V.int j from r2], ⟨hz.1.1, hz.1.2, hz.2.1, hz.2.2⟩, for_range (lo := i) (n := (j - i).toNat) (fun m σ' H' => ∃ M' G', St X.K M2 H0 M' H' σ' G' ∧ I m G') ⟨M2, G0, ((S.next (n1.trans n2)).weak w0).rebase, h0⟩ ?_ ?_⟩
    · rintro m σ' H' hm' ⟨M', G', S', hI⟩
      exact (hs m G' (by omega) hI).run _ E (S'.set (s := .vl tI (i + m)) (v := .int (i + m)) rfl) tk ⟨fun S2 h2 => ⟨_, _, S2, h2⟩, fun n2 h2 => f.rt (n0.unbase n2) h2, fun S2 h2 => f.nx (S2.unbase n0) h2, fun S2 h2 => ⟨_, _, S2, h2⟩, fun n2 h2 => f.xc (n0.unbase n2) h2⟩
    · rintro σ' H' ⟨M', G', S', hI⟩
      exact f.nx (S'.unbase n0) (hd G' hI)⟩⟩
theorem s_while (I : Nat → List Sl → Prop) (G0 : List Sl) (m0 : Nat) (w0 : Sub G G0) (h0 : I m0 G0)
    (hs : ∀ (m : Nat) G', I m G' → ∃ d, T X G' c d ∧ (d = true → B X G' body ⟨fun G2 => ∃ m', m' < m ∧ I m' G2, R.rt, R.nx, fun G2 => ∃ m', m' < m ∧ I m' G2, R.xc⟩) ∧ (d = false → R.nx G'))
    (hp : PassesOwn (model X.prog X.w) X.A X.env X.xe := by first | exact PassesOwn.never | assumption) : S1 X G (.While c body [] pos) R := ⟨fun {M0 H0 M H σ} D E S tk f =>
  ⟨_, ps_while hp pt_w pss_w, fun m σ' H' => ∃ M' G', St X.K M0 H0 M' H' σ' G' ∧ I m G', ⟨m0, M, G0, S.weak w0, h0⟩, by
    rintro m σ' H' ⟨M', G', S', hI⟩
    obtain ⟨d, ht, h1, h2⟩ := hs m G' hI
    refine ht.run S' _ fun M1 H1 n1 => ?_
    cases d with
    | true =>
      rw [if_pos rfl]
      refine ⟨fun σ' H' => ∃ m', m' < m ∧ ∃ M' G', St X.K M0 H0 M' H' σ' G' ∧ I m' G', fun _ _ h => h, ?_⟩
      exact (h1 rfl).run _ E (S'.next n1) tk ⟨fun S2 ⟨m', l, h⟩ => ⟨m', l, _, _, S2, h⟩, f.rt, f.nx, fun S2 ⟨m', l, h⟩ => ⟨m', l, _, _, S2, h⟩, f.xc⟩
    | false =>
      rw [if_neg (by decide)]
      exact f.nx (S'.next n1) (h2 rfl)⟩⟩
end
end TL

namespace TL
open PySem PySem.Spec PyProof.Rows L2

/-! ### defs -/
/-- the promise of a def that raises nothing -/
def spG {ι ρ : Type} (K : Fg) (ar : ι → List Sl) (pre : ι → Prop) (t : Ty ρ) (out : ι → ρ) : Sp := fun vs H Q _ =>
  ∃ (i : ι) (M : Hp), Same M H ∧ Reps K M vs (ar i) ∧ pre i ∧ ∀ v M' H', Nx M H M' H' → t.rep K M' v (out i) → Q v H'
/-- the promise of a def that may raise -/
def spR {ι : Type} (K : Fg) (ar : ι → List Sl) (pre : ι → Prop) (rt : ι → Hp → V → Prop) (xc : ι → Value → Option Addr → Hp → Prop) : Sp := fun vs H Q E =>
  ∃ (i : ι) (M : Hp), Same M H ∧ Reps K M vs (ar i) ∧ pre i ∧ (∀ v M' H', Nx M H M' H' → rt i M' v → Q v H') ∧ ∀ c d M' H', Nx M H M' H' → xc i c d M' → E c d H'
def Ret {ρ : Type} (K : Fg) (t : Ty ρ) (y : ρ) : Out := { nx := fun _ => ∀ M, t.rep K M .non y, rt := fun M v => t.rep K M v y }
theorem reps_len {K : Fg} {M : Hp} : ∀ {vs : List V} {ss : List Sl}, Reps K M vs ss → vs.length = ss.length
  | _, _, .nil => rfl
  | _, _, .cons _ r => by simp [reps_len r]
theorem reps_get {K : Fg} {M : Hp} : ∀ {vs : List V} {ss : List Sl} {i : Nat} {s : Sl}, Reps K M vs ss → ss[i]? = some s → ∃ v, vs[i]? = some v ∧ RepS K M v s
  | _, _, _, _, .nil, e => by simp at e
  | _, _, 0, _, .cons h _, e => by simp at e; subst e; exact ⟨_, rfl, h⟩
  | _, _, i + 1, s, .cons _ r, e => by
    obtain ⟨u, h1, h2⟩ := reps_get (i := i) (s := s) r (by simpa using e)
    exact ⟨u, by simpa using h1, h2⟩
theorem reps_noown {K : Fg} {M : Hp} : ∀ {vs : List V} {ss : List Sl} {i : Nat} {s : Sl}, Reps K M vs ss → ss[i]? = some s → s.own = false
  | _, _, _, _, .nil, e => by simp at e
  | _, _, 0, _, .cons _ _, e => by simp at e; subst e; rfl
  | _, _, i + 1, s, .cons _ r, e => reps_noown (i := i) r (by simpa using e)
/-- the state at a def's entry -/
theorem st_start {K : Fg} {M H : Hp} {vs : List V} {ss : List Sl} {N : List Str} {n : Nat} (m : Same M H) (r : Reps K M vs ss) (hn : N.length = ss.length + n) : St K M H M H (L2.start N vs) (ss ++ List.replicate n .un) := by
  have hl := reps_len r
  refine ⟨Nx.refl m, ?_, fun _ => [], fun i s e => ?_, fun i j s t e1 e2 o1 o2 ne x hx => ?_⟩
  · unfold L2.start
    rw [List.length_append, List.length_append, List.length_map, List.length_replicate, List.length_replicate, hl]
    omega
  · unfold L2.start
    by_cases h : i < ss.length
    · rw [List.getElem?_append_left h] at e
      obtain ⟨v, q1, q2⟩ := reps_get r e
      refine ⟨some v, ?_, ?_⟩
      · rw [List.getElem?_append_left (by rw [List.length_map, hl]; exact h), List.getElem?_map, q1]; rfl
      · cases s with
        | un => trivial
        | vl t x => exact ⟨v, rfl, q2⟩
        | ow t xs => exact q2.elim
        | o2 t xs => exact q2.elim
        | ob p dx C fs => exact q2.elim
    · have h' : ss.length ≤ i := Nat.le_of_not_lt h
      rw [List.getElem?_append_right h'] at e
      have e2 := (List.getElem?_eq_some_iff.mp e)
      obtain ⟨l, e3⟩ := e2
      rw [List.getElem_replicate] at e3
      subst e3
      rw [List.length_replicate] at l
      refine ⟨none, ?_, trivial⟩
      rw [List.getElem?_append_right (by rw [List.length_map, hl]; exact h'), List.length_map, hl, List.getElem?_replicate, if_pos (by omega)]
  · have : s.own = false := by
      by_cases h : i < ss.length
      · rw [List.getElem?_append_left h] at e1; exact reps_noown r e1
      · rw [List.getElem?_append_right (Nat.le_of_not_lt h)] at e1
        obtain ⟨l, e3⟩ := List.getElem?_eq_some_iff.mp e1
        rw [List.getElem_replicate] at e3
        subst e3; rfl
    rw [this] at o1; cases o1
theorem takes_false {X : Cx} : Takes X (fun c d _ H => (fun _ _ _ => False : XK) c d H) := fun u s' ⟨_, _, _, _, _, _, _, _, _, _, _, _, _, _, _, _, w⟩ => w.elim
section
variable {P : Program} {w : World} {K : Fg} {mg : Str → Option Value} {base : Heap} {ι ρ : Type}
theorem fn_ok {x qual : Str} {st : Stmt} {f : Addr} {fd : FuncData} {N ps : List Str} {k : Nat} {ar : ι → List Sl} {pre : ι → Prop} {t : Ty ρ} {out : ι → ρ} (F : Fun K x qual st f fd) (S : FnScope N ps (defScope st)) (n : Nat)
    (hn : N.length = ps.length + n) (hl : ∀ i, (ar i).length = ps.length)
    (hb : ∀ (cdv : Value) (A : Around) (outer : List Env) (s : Shared) (H : Hp) (E : XK), Room k (A.deeper (envOfC qual (defScope st) s.heap.objs.size f cdv)) → ∀ i, pre i →
      B (cxOf CX0 P w K mg base N qual (defScope st) f cdv A outer s H E).nox (ar i ++ List.replicate n .un) (defBody st) (Ret K t (out i))) : FnOk P w K mg base CX0 (k + 1) f fd ps (spG K ar pre t out) := by
  refine F.ok S (fun vs H Q E h => ?_) (fun cdv A outer s H vs Q E hr h => ⟨_, pss_w, ?_⟩)
  · obtain ⟨i, M, _, r, _⟩ := h
    rw [reps_len r, hl]
  · obtain ⟨i, M, m, r, hp, q⟩ := h
    refine (hb cdv A outer s H E hr i hp).run _ (fun _ _ _ => False) (st_start m r (by rw [hl]; exact hn)) takes_false ⟨fun S' h => ?_, fun n2 h => q _ _ _ n2 h, fun _ h => h.elim, fun _ h => h.elim, fun _ h => h.elim⟩
    exact q _ _ _ S'.nx (h _)
/-- .. that may raise -/
theorem fn_okX {x qual : Str} {st : Stmt} {f : Addr} {fd : FuncData} {N ps : List Str} {k : Nat} {ar : ι → List Sl} {pre : ι → Prop} {rt : ι → Hp → V → Prop} {xc : ι → Value → Option Addr → Hp → Prop} (F : Fun K x qual st f fd) (S : FnScope N ps (defScope st)) (n : Nat)
    (hn : N.length = ps.length + n) (hl : ∀ i, (ar i).length = ps.length)
    (hb : ∀ (cdv : Value) (A : Around) (outer : List Env) (s : Shared) (H : Hp) (E : XK), Room k (A.deeper (envOfC qual (defScope st) s.heap.objs.size f cdv)) → ∀ i, pre i →
      B (cxOf (CX P w) P w K mg base N qual (defScope st) f cdv A outer s H E) (ar i ++ List.replicate n .un) (defBody st) { nx := fun _ => ∀ M, rt i M .non, rt := rt i, xc := xc i }) : FnOk P w K mg base (CX P w) (k + 1) f fd ps (spR K ar pre rt xc) := by
  refine F.okX S (fun vs H Q E h => ?_) (fun cdv A outer s H vs Q E hr h => ⟨_, pss_w, ?_⟩)
  · obtain ⟨i, M, _, r, _⟩ := h
    rw [reps_len r, hl]
  · obtain ⟨i, M, m, r, hp, q, qx⟩ := h
    refine (hb cdv A outer s H E hr i hp).run _ E (st_start m r (by rw [hl]; exact hn)) (takes_of rfl rfl rfl rfl) ⟨fun S' h => ?_, fun n2 h => q _ _ _ n2 h, fun _ h => h.elim, fun _ h => h.elim, fun n2 h => qx _ _ _ _ n2 h⟩
    exact q _ _ _ S'.nx (h _)
/-- a def as its callers know it -/
structure Fn (P : Program) (w : World) (K : Fg) (mg : Str → Option Value) (base : Heap) (CX : CXT) (k : Nat) (name : Str) (ps : List Str) (sp : Sp) : Prop where
  ex : ∃ f fd, mg name = some (.ref f) ∧ PySem.W.keepIn K (.ref f) = true ∧ Binds K fd ps [] ∧ FnOk P w K mg base CX k f fd ps sp
end
section
variable {α β γ ι ρ : Type} {X : Cx} {G : List Sl} {a b c e : Expr} {es rest : List Expr} {s : Ty α} {t : Ty β} {u : Ty γ} {x : α} {y : β} {z : γ} {pos : Pos} {k : Nat}
theorem e_call {P : Program} {w : World} {K : Fg} {mg : Str → Option Value} {base : Heap} {n : Str} {ps : List Str} {ar : ι → List Sl} {pre : ι → Prop} {tr : Ty ρ} {out : ι → ρ} {p : Pos} (C : Fn P w K mg base CX0 k n ps (spG K ar pre tr out)) (hr : Room k X.A) (i : ι) (ha : EA X G (e :: es) (ar i)) (hp : pre i)
    (hg : Gl X n := by rfl) (hdb : (n == ("__debug__" : Str)) = false := by decide) (he : starEach (e :: es) X.env = (false, eval e X.env) :: starEach es X.env := by rfl) (hpl : (backTo pos (starEach es X.env)).any (·.1) = false := by rfl)
    (xP : X.prog = P := by rfl) (xw : X.w = w := by rfl) (xK : X.K = K := by rfl) (xm : X.mg = mg := by rfl) (xb : X.base = base := by rfl) : E X G (.Call (.Name n p) (e :: es) [] pos) tr (out i) := ⟨fun S Q q => by
  subst xP xw xK xm xb
  obtain ⟨f, fd, hm, hk, hb, F⟩ := C.ex
  refine ⟨_, pe_call F hr hg hm hk hb .nil pass0 pa_w hdb he hpl, ha.run S _ fun vs M1 H1 n1 r1 => ?_⟩
  rw [List.append_nil]
  exact ⟨i, M1, n1.sub, r1, hp, fun v M2 H2 n2 r2 => q v M2 H2 (n1.trans n2) r2⟩⟩
theorem e_call0 {P : Program} {w : World} {K : Fg} {mg : Str → Option Value} {base : Heap} {n : Str} {ar : Unit → List Sl} {pre : Unit → Prop} {tr : Ty ρ} {out : Unit → ρ} {p : Pos} (C : Fn P w K mg base CX0 k n [] (spG K ar pre tr out)) (hr : Room k X.A) (h0 : ar () = []) (hp : pre ())
    (hg : Gl X n := by rfl) (hdb : (n == ("__debug__" : Str)) = false := by decide) (xP : X.prog = P := by rfl) (xw : X.w = w := by rfl) (xK : X.K = K := by rfl) (xm : X.mg = mg := by rfl) (xb : X.base = base := by rfl) : E X G (.Call (.Name n p) [] [] pos) tr (out ()) := ⟨fun {M0 H0 M H σ} S Q q => by
  subst xP xw xK xm xb
  obtain ⟨f, fd, hm, hk, hb, F⟩ := C.ex
  refine ⟨_, pe_call0 F hr hg hm hk hb .nil pass0 hdb, ?_⟩
  refine ⟨(), M, S.sub, by rw [h0]; exact .nil, hp, fun v M2 H2 n2 r2 => q v M2 H2 n2 r2⟩⟩

/-! ### what does not lean on lists -/
def TupS (K : Fg) (M M' : Hp) : Prop := ∀ a xs, SqT K M a xs → SqT K M' a xs
def Imm (K : Fg) (t : Ty α) : Prop := ∀ M M' v x, TupS K M M' → t.rep K M v x → t.rep K M' v x
theorem imm_I {K : Fg} : Imm K tI := fun _ _ _ _ _ h => h
theorem imm_B {K : Fg} : Imm K tB := fun _ _ _ _ _ h => h
theorem imm_S {K : Fg} : Imm K tS := fun _ _ _ _ _ h => h
theorem imm_N {K : Fg} : Imm K tN := fun _ _ _ _ _ h => h
theorem imm_T {K : Fg} {s : Ty α} (i : Imm K s) : Imm K (tTup s) := fun _ _ _ _ q ⟨a, vs, h1, h2, h3⟩ => ⟨a, vs, h1, q _ _ h2, paired_imp (fun _ _ z => i _ _ _ _ q z) h3⟩
theorem imm_O {K : Fg} {s : Ty α} (i : Imm K s) : Imm K (tO s) := fun _ _ _ x q h => by
  cases x with
  | none => exact h
  | some y => exact i _ _ _ _ q h
theorem imm_2 {K : Fg} {s : Ty α} {t : Ty β} (i : Imm K s) (j : Imm K t) : Imm K (tP2 s t) := fun _ _ _ _ q ⟨a, v1, v2, h1, h2, h3, h4⟩ => ⟨a, v1, v2, h1, q _ _ h2, i _ _ _ _ q h3, j _ _ _ _ q h4⟩
/-- an own list is read -/
theorem e_read (m : Nat) {s : Ty α} {xs : List α} (h : G[m]? = some (.ow s xs)) (hi : Imm X.K t) (he : E X (G.set m (.vl (tLst s) xs)) e t y) : E X G e t y := ⟨fun {M0 H0 M H σ} S Q q => by
  obtain ⟨a, vs, hh, ma, h0, S'⟩ := S.freeze h
  refine he.run S' _ fun v M' H' n r => ?_
  have am : M' a = some (.lst vs) := n.vx _ _ upd_same
  refine q v (fun b => if b = a then none else M' b) H' ⟨n.ex, fun b o e => ?_, fun b o e => ?_, fun b n1 n2 => ?_⟩ (hi _ _ _ _ (fun b xs e => ?_) r)
  · have hb : b ≠ a := ne_of_none e ma
    show (if b = a then none else M' b) = some o
    rw [if_neg hb]
    exact n.vx _ _ (by rw [upd_ne hb]; exact e)
  · have e' : (if b = a then none else M' b) = some o := e
    by_cases hb : b = a
    · rw [if_pos hb] at e'; cases e'
    · rw [if_neg hb] at e'; exact n.sub _ _ e'
  · show (if b = a then none else M' b) = none
    by_cases hb : b = a
    · rw [if_pos hb]
    · rw [if_neg hb]; exact n.fr b (by rw [upd_ne hb]; exact n1) n2
  · rcases e with e | e
    · have hb : b ≠ a := fun z => by
        subst z
        rcases e with e | ⟨o, e⟩
        · rw [am] at e; cases e
        · rw [am] at e; cases e
      refine .inl ?_
      rcases e with e | ⟨o, e⟩
      · exact .inl (by show (if b = a then none else M' b) = _; rw [if_neg hb]; exact e)
      · exact .inr ⟨o, by show (if b = a then none else M' b) = _; rw [if_neg hb]; exact e⟩
    · exact .inr e⟩
theorem t_read (m : Nat) {s : Ty α} {xs : List α} {d : Bool} (h : G[m]? = some (.ow s xs)) (he : T X (G.set m (.vl (tLst s) xs)) e d) : T X G e d := ⟨fun {M0 H0 M H σ} S Q q => by
  obtain ⟨a, vs, hh, ma, h0, S'⟩ := S.freeze h
  refine he.run S' _ fun M' H' n => ?_
  have am : M' a = some (.lst vs) := n.vx _ _ upd_same
  refine q (fun b => if b = a then none else M' b) H' ⟨n.ex, fun b o e => ?_, fun b o e => ?_, fun b n1 n2 => ?_⟩
  · have hb : b ≠ a := ne_of_none e ma
    show (if b = a then none else M' b) = some o
    rw [if_neg hb]
    exact n.vx _ _ (by rw [upd_ne hb]; exact e)
  · have e' : (if b = a then none else M' b) = some o := e
    by_cases hb : b = a
    · rw [if_pos hb] at e'; cases e'
    · rw [if_neg hb] at e'; exact n.sub _ _ e'
  · show (if b = a then none else M' b) = none
    by_cases hb : b = a
    · rw [if_pos hb]
    · rw [if_neg hb]; exact n.fr b (by rw [upd_ne hb]; exact n1) n2⟩
/-- .. for a new list of things that don't lean on lists -/
theorem el_read (m : Nat) {s : Ty α} {xs : List α} {ys : List β} (h : G[m]? = some (.ow s xs)) (hi : Imm X.K t) (he : EL X (G.set m (.vl (tLst s) xs)) e t ys) : EL X G e t ys := ⟨fun {M0 H0 M H σ} S Q q => by
  obtain ⟨a, vs, hh, ma, h0, S'⟩ := S.freeze h
  refine he.run S' _ fun p M' H' ws n hp mp hw r => ?_
  have am : M' a = some (.lst vs) := n.vx _ _ upd_same
  have pa : p ≠ a := fun z => by subst z; rw [hp] at hh; cases hh
  refine q p (fun b => if b = a then none else M' b) H' ws ⟨n.ex, fun b o e => ?_, fun b o e => ?_, fun b n1 n2 => ?_⟩ hp (by show (if p = a then none else M' p) = none; rw [if_neg pa]; exact mp) hw (paired_imp (fun v x r => hi _ _ _ _ (fun b xs e => ?_) r) r)
  · have hb : b ≠ a := ne_of_none e ma
    show (if b = a then none else M' b) = some o
    rw [if_neg hb]
    exact n.vx _ _ (by rw [upd_ne hb]; exact e)
  · have e' : (if b = a then none else M' b) = some o := e
    by_cases hb : b = a
    · rw [if_pos hb] at e'; cases e'
    · rw [if_neg hb] at e'; exact n.sub _ _ e'
  · show (if b = a then none else M' b) = none
    by_cases hb : b = a
    · rw [if_pos hb]
    · rw [if_neg hb]; exact n.fr b (by rw [upd_ne hb]; exact n1) n2
  · rcases e with e | e
    · have hb : b ≠ a := fun z => by
        subst z
        rcases e with e | ⟨o, e⟩
        · rw [am] at e; cases e
        · rw [am] at e; cases e
      refine .inl ?_
      rcases e with e | ⟨o, e⟩
      · exact .inl (by show (if b = a then none else M' b) = _; rw [if_neg hb]; exact e)
      · exact .inr ⟨o, by show (if b = a then none else M' b) = _; rw [if_neg hb]; exact e⟩
    · exact .inr e⟩

/-! ### comprehensions -/
/-- in the block: the context is any X' that the block makes -/
def Blk (X X' : Cx) (scope : Scope) : Prop := ∃ (s : Shared) (H : Hp) (C : Addr) (cl : List (Str × Addr)) (fp : List Addr), X' = X.blk s H scope (compEnvC scope cl C X.env) fp
variable {scope : Scope} {own : List (Str × Nat)} {n : Str} {pn : Pos}
theorem wiped {σ : L2.St} {v : V} {i : Nat} {vs : List Nat} (hi : i ∈ vs) : L2.wipe ((L2.wipe σ vs).set i (some v)) vs = L2.wipe σ vs := by
  have key : ∀ (us : List Nat) (τ : L2.St) (j : Nat), (L2.wipe τ us)[j]? = if j ∈ us then (if j < τ.length then some none else none) else τ[j]? := by
    intro us
    induction us with
    | nil => intro τ j; simp [L2.wipe]
    | cons u us ih =>
      intro τ j
      show ((L2.wipe τ us).set u none)[j]? = _
      by_cases hj : u = j
      · subst hj
        rw [List.getElem?_set]
        simp [wipe_length]
      · rw [List.getElem?_set_ne hj, ih τ j]
        have : (j ∈ u :: us) ↔ j ∈ us := by simp [Ne.symm hj]
        simp [this]
  apply List.ext_getElem?
  intro j
  rw [key, key]
  by_cases hj : j ∈ vs
  · rw [if_pos hj, if_pos hj]
    rw [List.length_set, wipe_length]
  · rw [if_neg hj, if_neg hj]
    rw [List.getElem?_set_ne (fun z => hj (by rw [← z]; exact hi)), key, if_neg hj]
/-- the element's reading in any block -/
def wBlk (X : Cx) (scope : Scope) (e : Expr) : TE := fun σ H Q => ∀ (s0 : Shared) (H' : Hp) (C : Addr) (cl : List (Str × Addr)) (fp : List Addr), wE (X.blk s0 H' scope (compEnvC scope cl C X.env) fp) e σ H Q
theorem pe_blk {X : Cx} {scope : Scope} {e : Expr} (s0 : Shared) (H' : Hp) (C : Addr) (cl : List (Str × Addr)) (fp : List Addr) : PE (X.blk s0 H' scope (compEnvC scope cl C X.env) fp) e (wBlk X scope e) :=
  ⟨fun pins s σ H Q I h => pe_w.run pins s σ H Q I (h s0 H' C cl fp)⟩
def wBlkT (X : Cx) (scope : Scope) (e : Expr) : TT := fun σ H Q => ∀ (s0 : Shared) (H' : Hp) (C : Addr) (cl : List (Str × Addr)) (fp : List Addr), wT (X.blk s0 H' scope (compEnvC scope cl C X.env) fp) e σ H Q
theorem pt_blk {X : Cx} {scope : Scope} {e : Expr} (s0 : Shared) (H' : Hp) (C : Addr) (cl : List (Str × Addr)) (fp : List Addr) : PT (X.blk s0 H' scope (compEnvC scope cl C X.env) fp) e (wBlkT X scope e) :=
  ⟨fun pins s σ H Q I h => pt_w.run pins s σ H Q I (h s0 H' C cl fp)⟩
/-- behind m turns of a comprehension: the list at D holds what is made -/
def LcI {β : Type} (K : Fg) (t : Ty β) (M1 H1 : Hp) (D : Addr) (ys : List β) (H : Hp) : Prop := ∃ M vs, Nx M1 H1 M H ∧ M D = none ∧ H D = some (.lst vs) ∧ Paired (t.rep K M) vs ys
theorem lcI_turn {X X' : Cx} {G : List Sl} {e : Expr} {t : Ty β} {y : β} {M0 H0 M1 H1 H : Hp} {D : Addr} {ys : List β} {σ : L2.St} (hK : X'.K = X.K) (hD : H1 D = none) (hI : LcI X.K t M1 H1 D ys H) (hz : ys.length < 1000000)
    (S : ∀ M, Nx M1 H1 M H → St X'.K M0 H0 M H σ G) (he : E X' G e t y) : wE X' e σ H fun v H4 => ∃ acc, H4 D = some (.lst acc) ∧ acc.length < sizeLine ∧ LcI X.K t M1 H1 D (ys ++ [y]) (upd H4 D (.lst (acc ++ [v]))) := by
  obtain ⟨M, vs, n, hm, hh, pr⟩ := hI
  refine he.run (S M n) _ fun v M' H' n' r => ?_
  have h4 := n'.ex _ _ hh
  have mD : M' D = none := n'.fr D hm (by rw [hh]; simp)
  have nn := n.trans n'
  refine ⟨vs, h4, by rw [pr.length]; exact Nat.lt_of_lt_of_le hz (by decide), M', vs ++ [v], ⟨fun b o q => ?_, nn.vx, fun b o q => ?_, nn.fr⟩, mD, upd_same, paired_app (paired_imp (fun _ _ q => t.ext n'.vx q) pr) (.cons (by rw [← hK]; exact r) .nil)⟩
  · rw [upd_ne (ne_of_none q hD)]; exact nn.ex b o q
  · rw [upd_ne (ne_of_none q mD)]; exact nn.sub b o q
theorem lcI_start {K : Fg} {t : Ty β} {M1 H1 : Hp} {D : Addr} (m : Same M1 H1) (hD : H1 D = none) : LcI K t M1 H1 D [] (upd H1 D (.lst [])) :=
  ⟨M1, [], nx_lay m hD, same_none m hD, upd_same, .nil⟩
theorem St.block {K : Fg} {M0 H0 M1 H1 M H : Hp} {σ : L2.St} {G : List Sl} (S : St K M0 H0 M1 H1 σ G) (n : Nx M1 H1 M H) (vs : List Nat) {α : Type} {s : Ty α} {x : α} {v : V} (i : Nat) (r : s.rep K M1 v x) : St K M0 H0 M H ((L2.wipe σ vs).set i (some v)) ((wipeG G vs).set i (.vl s x)) :=
  ((S.next n).wipe vs).set (s := .vl s x) (s.ext n.vx r)
theorem take_snoc {α : Type} {xs : List α} {m : Nat} {x : α} (h : xs[m]? = some x) : xs.take (m + 1) = xs.take m ++ [x] := by
  rw [List.take_add_one, h]; rfl
/-- a list comprehension, whatever becomes of its list -/
structure LC (X : Cx) (G : List Sl) (elt tg iter : Expr) (ifs : List Expr) (scope : Scope) (t : Ty β) (ys : List β) : Prop where
  ex : ∃ (wi : TI) (g : TG) (tt : TT) (te : TE) (own : List (Str × Nat)), PI X tg iter wi ∧ BlkOk X.N X.env.scope scope own ∧
    (∀ (s : Shared) (H : Hp) (C : Addr) (cl : List (Str × Addr)) (fp : List Addr), PG (X.blk s H scope (compEnvC scope cl C X.env) fp) tg g) ∧
    (∀ (s : Shared) (H : Hp) (C : Addr) (cl : List (Str × Addr)) (fp : List Addr), PTs (X.blk s H scope (compEnvC scope cl C X.env) fp) ifs tt) ∧
    (∀ (s : Shared) (H : Hp) (C : Addr) (cl : List (Str × Addr)) (fp : List Addr), PE (X.blk s H scope (compEnvC scope cl C X.env) fp) elt te) ∧ (∀ x, foldedSetIterable iter X.env x = pure x) ∧
    ∀ {M0 H0 M H : Hp} {σ : L2.St}, St X.K M0 H0 M H σ G → ∀ (Q : VK), (∀ p M' H' vs, Nx M H M' H' → H p = none → M' p = none → H' p = some (.lst vs) → Paired (t.rep X.K M') vs ys → Q (.ref p) H') → tLc wi g tt te (own.map (·.2)) σ H Q
theorem el_lc {elt tg iter : Expr} {ifs : List Expr} {ys : List β} (h : LC X G elt tg iter ifs scope t ys) (hcm : X.calm = true) (hN : X.N.Nodup) : EL X G (.ListComp elt [⟨tg, iter, ifs, 0⟩] scope pos) t ys := by
  obtain ⟨wi, g, tt, te, own, h1, h2, h3, h4, h5, h6, h7⟩ := h.ex
  exact ⟨fun S Q q => ⟨_, pe_lc hcm hN h1 h2 h3 h4 h5 h6, h7 S Q q⟩⟩
theorem s_lc (k : Nat) {elt tg iter : Expr} {ifs : List Expr} {ys : List β} {nm : Str} {py : Pos} {pos' : Pos} {R : Out} (h : LC X G elt tg iter ifs scope t ys) (hnx : R.nx (G.set k (.ow t ys))) (hcm : X.calm = true) (hN : X.N.Nodup) (hi : X.N[k]? = some nm := by rfl) (hy : X.env.scope.names.lookup nm = some .local := by rfl)
    (hsw : swapsWith (.ListComp elt [⟨tg, iter, ifs, 0⟩] scope pos) (some (.Name nm py)) pos'.line X.env = pure true := by first | exact sw_true rfl rfl rfl (by decide +kernel) | rfl) : S1 X G (.Assign [.Name nm py] (.ListComp elt [⟨tg, iter, ifs, 0⟩] scope pos) pos') R := by
  obtain ⟨wi, g, tt, te, own, h1, h2, h3, h4, h5, h6, h7⟩ := h.ex
  exact ⟨fun D E S tk f => ⟨_, ps_setLc hcm hN hi hy hsw h1 h2 h3 h4 h5 h6, h7 S _ fun p M1 H1 vs n1 hp mp hh r1 => f.nx (S.setOwn n1 hp mp hh r1) hnx⟩⟩
theorem lc_T {f : α → β} {xs : List α} (he : E X G a (tTup s) xs) (i : Nat)
    (hel : ∀ (s0 : Shared) (H : Hp) (C : Addr) (cl : List (Str × Addr)) (fp : List Addr) (m : Nat) (x : α), xs[m]? = some x → E (X.blk s0 H scope (compEnvC scope cl C X.env) fp) ((wipeG G (own.map (·.2))).set i (.vl s x)) e t (f x))
    (ok : BlkOk X.N X.env.scope scope own) (hz : xs.length ≤ 1000000)
    (hg : ∀ (s0 : Shared) (H : Hp) (C : Addr) (cl : List (Str × Addr)) (fp : List Addr), PG (X.blk s0 H scope (compEnvC scope cl C X.env) fp) (.Name n pn) (gName i)) (hio : i ∈ own.map (·.2) := by decide)
    (hs : ∀ x, foldedSetIterable a X.env x = pure x := by intro _; rfl) : LC X G e (.Name n pn) (a) [] scope t (xs.map f) := ⟨_, _, _, wBlk X scope e, own, (pi_tup pe_w), ok, hg, (fun _ _ _ _ _ => pts_nil), (fun s0 H C cl fp => pe_blk s0 H C cl fp), hs, fun {M0 H0 M H σ} S Q q => by
  refine he.run S _ fun v M1 H1 n1 r1 => ?_
  obtain ⟨p, vs, e1, e2, e3⟩ := r1
  refine ⟨p, e1, ⟨vs, sqT_ext n1.sub e2⟩, fun D hD => lc_tup (K := X.K) (a := p) (xs := vs) (fun m H' => LcI X.K t M1 H1 D ((xs.take m).map f) H') (lcI_start n1.sub hD) (fun m H' _ ⟨M', _, n', _⟩ => sqT_ext (n'.vx.trans n'.sub) e2) ?_ ?_⟩
  · intro m w H' hm hI
    obtain ⟨x', g1, g2⟩ := paired_get' e3 hm
    refine ⟨wiped hio, fun s0 H2 C cl fp => ?_⟩
    rw [take_snoc g1, List.map_append]
    have hl : ((xs.take m).map f).length < 1000000 := by
      have := (List.getElem?_eq_some_iff.mp g1).1
      rw [List.length_map, List.length_take]; omega
    exact lcI_turn (X := X) rfl hD hI hl (fun M' n' => St.block (S.next n1) n' _ i g2) (hel s0 H2 C cl fp m x' g1)
  · rintro H' ⟨M', ws, n', mD, hh, pr⟩
    rw [e3.length, List.take_length] at pr
    exact q D M' H' ws (n1.trans n') (n1.ex.free hD) mD hh pr⟩
theorem lc_L {f : α → β} {xs : List α} (he : E X G a (tLst s) xs) (i : Nat)
    (hel : ∀ (s0 : Shared) (H : Hp) (C : Addr) (cl : List (Str × Addr)) (fp : List Addr) (m : Nat) (x : α), xs[m]? = some x → E (X.blk s0 H scope (compEnvC scope cl C X.env) fp) ((wipeG G (own.map (·.2))).set i (.vl s x)) e t (f x))
    (ok : BlkOk X.N X.env.scope scope own) (hz : xs.length ≤ 1000000)
    (hg : ∀ (s0 : Shared) (H : Hp) (C : Addr) (cl : List (Str × Addr)) (fp : List Addr), PG (X.blk s0 H scope (compEnvC scope cl C X.env) fp) (.Name n pn) (gName i)) (hio : i ∈ own.map (·.2) := by decide)
    (hs : ∀ x, foldedSetIterable a X.env x = pure x := by intro _; rfl) : LC X G e (.Name n pn) (a) [] scope t (xs.map f) := ⟨_, _, _, wBlk X scope e, own, (pi_list pe_w), ok, hg, (fun _ _ _ _ _ => pts_nil), (fun s0 H C cl fp => pe_blk s0 H C cl fp), hs, fun {M0 H0 M H σ} S Q q => by
  refine he.run S _ fun v M1 H1 n1 r1 => ?_
  obtain ⟨p, vs, e1, e2, e3⟩ := r1
  refine ⟨p, e1, ⟨vs, SqL.of (n1.sub _ _ e2)⟩, fun D hD => lc_list (K := X.K) (a := p) (xs := vs) (fun m H' => LcI X.K t M1 H1 D ((xs.take m).map f) H') (lcI_start n1.sub hD) (fun m H' _ ⟨M', _, n', _⟩ => SqL.of (n'.sub _ _ (n'.vx _ _ e2))) ?_ ?_⟩
  · intro m w H' hm hI
    obtain ⟨x', g1, g2⟩ := paired_get' e3 hm
    refine ⟨wiped hio, fun s0 H2 C cl fp => ?_⟩
    rw [take_snoc g1, List.map_append]
    have hl : ((xs.take m).map f).length < 1000000 := by
      have := (List.getElem?_eq_some_iff.mp g1).1
      rw [List.length_map, List.length_take]; omega
    exact lcI_turn (X := X) rfl hD hI hl (fun M' n' => St.block (S.next n1) n' _ i g2) (hel s0 H2 C cl fp m x' g1)
  · rintro H' ⟨M', ws, n', mD, hh, pr⟩
    rw [e3.length, List.take_length] at pr
    exact q D M' H' ws (n1.trans n') (n1.ex.free hD) mD hh pr⟩
theorem lc_S {f : α → β} {xs : List α} (he : E X G a (tSq s) xs) (i : Nat)
    (hel : ∀ (s0 : Shared) (H : Hp) (C : Addr) (cl : List (Str × Addr)) (fp : List Addr) (m : Nat) (x : α), xs[m]? = some x → E (X.blk s0 H scope (compEnvC scope cl C X.env) fp) ((wipeG G (own.map (·.2))).set i (.vl s x)) e t (f x))
    (ok : BlkOk X.N X.env.scope scope own) (hz : xs.length ≤ 1000000)
    (hg : ∀ (s0 : Shared) (H : Hp) (C : Addr) (cl : List (Str × Addr)) (fp : List Addr), PG (X.blk s0 H scope (compEnvC scope cl C X.env) fp) (.Name n pn) (gName i)) (hio : i ∈ own.map (·.2) := by decide)
    (hs : ∀ x, foldedSetIterable a X.env x = pure x := by intro _; rfl) : LC X G e (.Name n pn) (a) [] scope t (xs.map f) := ⟨_, _, _, wBlk X scope e, own, (pi_list pe_w), ok, hg, (fun _ _ _ _ _ => pts_nil), (fun s0 H C cl fp => pe_blk s0 H C cl fp), hs, fun {M0 H0 M H σ} S Q q => by
  refine he.run S _ fun v M1 H1 n1 r1 => ?_
  obtain ⟨p, vs, e1, e2, e3⟩ := r1
  refine ⟨p, e1, ⟨vs, sqL_ext n1.sub e2⟩, fun D hD => lc_list (K := X.K) (a := p) (xs := vs) (fun m H' => LcI X.K t M1 H1 D ((xs.take m).map f) H') (lcI_start n1.sub hD) (fun m H' _ ⟨M', _, n', _⟩ => sqL_ext (n'.vx.trans n'.sub) e2) ?_ ?_⟩
  · intro m w H' hm hI
    obtain ⟨x', g1, g2⟩ := paired_get' e3 hm
    refine ⟨wiped hio, fun s0 H2 C cl fp => ?_⟩
    rw [take_snoc g1, List.map_append]
    have hl : ((xs.take m).map f).length < 1000000 := by
      have := (List.getElem?_eq_some_iff.mp g1).1
      rw [List.length_map, List.length_take]; omega
    exact lcI_turn (X := X) rfl hD hI hl (fun M' n' => St.block (S.next n1) n' _ i g2) (hel s0 H2 C cl fp m x' g1)
  · rintro H' ⟨M', ws, n', mD, hh, pr⟩
    rw [e3.length, List.take_length] at pr
    exact q D M' H' ws (n1.trans n') (n1.ex.free hD) mD hh pr⟩
/-- [e for i in range(n)] -/
theorem lc_R {f : Nat → β} {j : Int} {p1 p2 : Pos} (hm : X.mg "range" = none) (he : E X G a tI j) (hj : -1000000 ≤ j ∧ j ≤ 1000000) (i : Nat)
    (hel : ∀ (s0 : Shared) (H : Hp) (C : Addr) (cl : List (Str × Addr)) (fp : List Addr) (m : Nat), (m : Int) < j → E (X.blk s0 H scope (compEnvC scope cl C X.env) fp) ((wipeG G (own.map (·.2))).set i (.vl tI (m : Int))) e t (f m))
    (ok : BlkOk X.N X.env.scope scope own)
    (hg : ∀ (s0 : Shared) (H : Hp) (C : Addr) (cl : List (Str × Addr)) (fp : List Addr), PG (X.blk s0 H scope (compEnvC scope cl C X.env) fp) (.Name n pn) (gName i)) (hio : i ∈ own.map (·.2) := by decide)
    (hgr : Gl X "range" := by rfl) (hst : starEach [a] X.env = [(false, eval a X.env)] := by rfl)
    (hs : ∀ x, foldedSetIterable (.Call (.Name "range" p1) [a] [] p2) X.env x = pure x := by intro _; rfl) : LC X G e (.Name n pn) (.Call (.Name "range" p1) [a] [] p2) [] scope t ((List.range j.toNat).map f) := ⟨_, _, _, wBlk X scope e, own, (pi_range1 hgr hm (pa_cons pe_w pa_nil hst) hst), ok, hg, (fun _ _ _ _ _ => pts_nil), (fun s0 H C cl fp => pe_blk s0 H C cl fp), hs, fun {M0 H0 M H σ} S Q q => by
  refine he.run S _ fun v M1 H1 n1 r1 => ?_
  refine ⟨j, by rw [show v = V.int j from r1], by omega, by omega, fun D hD => lc_range (lo := 0) (n := j.toNat) (fun m H' => LcI X.K t M1 H1 D ((List.range m).map f) H') (lcI_start n1.sub hD) ?_ ?_⟩
  · intro m H' hm hI
    have e0 : (0 : Int) + (m : Int) = (m : Int) := Int.zero_add _
    rw [e0]
    refine ⟨wiped hio, fun s0 H2 C cl fp => ?_⟩
    rw [List.range_succ, List.map_append]
    have hl : ((List.range m).map f).length < 1000000 := by
      rw [List.length_map, List.length_range]; omega
    exact lcI_turn (X := X) rfl hD hI hl (fun M' n' => St.block (S.next n1) n' _ i (s := tI) (x := (m : Int)) rfl) (hel s0 H2 C cl fp m (by omega))
  · rintro H' ⟨M', ws, n', mD, hh, pr⟩
    exact q D M' H' ws (n1.trans n') (n1.ex.free hD) mD hh pr⟩
/-- with a test -/
theorem lcI_test {X X' : Cx} {G : List Sl} {c : Expr} {t : Ty β} {M0 H0 M1 H1 H : Hp} {D : Addr} {ys : List β} {σ : L2.St} {d : Bool} {R : Bool → Hp → Prop} (hI : LcI X.K t M1 H1 D ys H)
    (S : ∀ M, Nx M1 H1 M H → St X'.K M0 H0 M H σ G) (ht : T X' G c d) (k : ∀ H3, LcI X.K t M1 H1 D ys H3 → R d H3) : wT X' c σ H R := by
  obtain ⟨M, vs, n, hm, hh, pr⟩ := hI
  refine ht.run (S M n) _ fun M' H' n' => k H' ⟨M', vs, n.trans n', n'.fr D hm (by rw [hh]; simp), n'.ex _ _ hh, paired_imp (fun _ _ q => t.ext n'.vx q) pr⟩
theorem lc_TF {f : α → β} {g : α → Bool} {xs : List α} (he : E X G a (tTup s) xs) (i : Nat)
    (htt : ∀ (s0 : Shared) (H : Hp) (C : Addr) (cl : List (Str × Addr)) (fp : List Addr) (m : Nat) (x : α), xs[m]? = some x → T (X.blk s0 H scope (compEnvC scope cl C X.env) fp) ((wipeG G (own.map (·.2))).set i (.vl s x)) c (g x))
    (hel : ∀ (s0 : Shared) (H : Hp) (C : Addr) (cl : List (Str × Addr)) (fp : List Addr) (m : Nat) (x : α), xs[m]? = some x → g x = true → E (X.blk s0 H scope (compEnvC scope cl C X.env) fp) ((wipeG G (own.map (·.2))).set i (.vl s x)) e t (f x))
    (ok : BlkOk X.N X.env.scope scope own) (hz : xs.length ≤ 1000000)
    (hg : ∀ (s0 : Shared) (H : Hp) (C : Addr) (cl : List (Str × Addr)) (fp : List Addr), PG (X.blk s0 H scope (compEnvC scope cl C X.env) fp) (.Name n pn) (gName i)) (hio : i ∈ own.map (·.2) := by decide)
    (hs : ∀ x, foldedSetIterable a X.env x = pure x := by intro _; rfl) : LC X G e (.Name n pn) (a) [c] scope t ((xs.filter g).map f) := ⟨_, _, wBlkT X scope c, wBlk X scope e, own, (pi_tup pe_w), ok, hg, (fun s0 H C cl fp => pts_one (pt_blk s0 H C cl fp)), (fun s0 H C cl fp => pe_blk s0 H C cl fp), hs, fun {M0 H0 M H σ} S Q q => by
  refine he.run S _ fun v M1 H1 n1 r1 => ?_
  obtain ⟨p, vs, e1, e2, e3⟩ := r1
  refine ⟨p, e1, ⟨vs, sqT_ext n1.sub e2⟩, fun D hD => lc_tup (K := X.K) (a := p) (xs := vs) (fun m H' => LcI X.K t M1 H1 D (((xs.take m).filter g).map f) H') (lcI_start n1.sub hD) (fun m H' _ ⟨M', _, n', _⟩ => sqT_ext (n'.vx.trans n'.sub) e2) ?_ ?_⟩
  · intro m w H' hm hI
    obtain ⟨x', g1, g2⟩ := paired_get' e3 hm
    refine ⟨wiped hio, fun s0 H2 C cl fp => lcI_test hI (fun M' n' => St.block (S.next n1) n' _ i g2) (htt s0 H2 C cl fp m x' g1) fun H3 hI3 => ?_⟩
    cases hd : g x' with
    | true =>
      rw [if_pos rfl]
      intro s0 H2 C cl fp
      rw [take_snoc g1, List.filter_append, List.map_append, show List.filter g [x'] = [x'] by simp [hd]]
      have hl : (((xs.take m).filter g).map f).length < 1000000 := by
        have h1 := (List.getElem?_eq_some_iff.mp g1).1
        have h2 := List.length_filter_le g (xs.take m)
        rw [List.length_take] at h2
        rw [List.length_map]; omega
      exact lcI_turn (X := X) rfl hD hI3 hl (fun M' n' => St.block (S.next n1) n' _ i g2) (hel s0 H2 C cl fp m x' g1 hd)
    | false =>
      rw [if_neg (by decide)]
      rw [take_snoc g1, List.filter_append, show List.filter g [x'] = [] by simp [hd], List.append_nil]
      exact hI3
  · rintro H' ⟨M', ws, n', mD, hh, pr⟩
    rw [e3.length, List.take_length] at pr
    exact q D M' H' ws (n1.trans n') (n1.ex.free hD) mD hh pr⟩
theorem lc_LF {f : α → β} {g : α → Bool} {xs : List α} (he : E X G a (tLst s) xs) (i : Nat)
    (htt : ∀ (s0 : Shared) (H : Hp) (C : Addr) (cl : List (Str × Addr)) (fp : List Addr) (m : Nat) (x : α), xs[m]? = some x → T (X.blk s0 H scope (compEnvC scope cl C X.env) fp) ((wipeG G (own.map (·.2))).set i (.vl s x)) c (g x))
    (hel : ∀ (s0 : Shared) (H : Hp) (C : Addr) (cl : List (Str × Addr)) (fp : List Addr) (m : Nat) (x : α), xs[m]? = some x → g x = true → E (X.blk s0 H scope (compEnvC scope cl C X.env) fp) ((wipeG G (own.map (·.2))).set i (.vl s x)) e t (f x))
    (ok : BlkOk X.N X.env.scope scope own) (hz : xs.length ≤ 1000000)
    (hg : ∀ (s0 : Shared) (H : Hp) (C : Addr) (cl : List (Str × Addr)) (fp : List Addr), PG (X.blk s0 H scope (compEnvC scope cl C X.env) fp) (.Name n pn) (gName i)) (hio : i ∈ own.map (·.2) := by decide)
    (hs : ∀ x, foldedSetIterable a X.env x = pure x := by intro _; rfl) : LC X G e (.Name n pn) (a) [c] scope t ((xs.filter g).map f) := ⟨_, _, wBlkT X scope c, wBlk X scope e, own, (pi_list pe_w), ok, hg, (fun s0 H C cl fp => pts_one (pt_blk s0 H C cl fp)), (fun s0 H C cl fp => pe_blk s0 H C cl fp), hs, fun {M0 H0 M H σ} S Q q => by
  refine he.run S _ fun v M1 H1 n1 r1 => ?_
  obtain ⟨p, vs, e1, e2, e3⟩ := r1
  refine ⟨p, e1, ⟨vs, SqL.of (n1.sub _ _ e2)⟩, fun D hD => lc_list (K := X.K) (a := p) (xs := vs) (fun m H' => LcI X.K t M1 H1 D (((xs.take m).filter g).map f) H') (lcI_start n1.sub hD) (fun m H' _ ⟨M', _, n', _⟩ => SqL.of (n'.sub _ _ (n'.vx _ _ e2))) ?_ ?_⟩
  · intro m w H' hm hI
    obtain ⟨x', g1, g2⟩ := paired_get' e3 hm
    refine ⟨wiped hio, fun s0 H2 C cl fp => lcI_test hI (fun M' n' => St.block (S.next n1) n' _ i g2) (htt s0 H2 C cl fp m x' g1) fun H3 hI3 => ?_⟩
    cases hd : g x' with
    | true =>
      rw [if_pos rfl]
      intro s0 H2 C cl fp
      rw [take_snoc g1, List.filter_append, List.map_append, show List.filter g [x'] = [x'] by simp [hd]]
      have hl : (((xs.take m).filter g).map f).length < 1000000 := by
        have h1 := (List.getElem?_eq_some_iff.mp g1).1
        have h2 := List.length_filter_le g (xs.take m)
        rw [List.length_take] at h2
        rw [List.length_map]; omega
      exact lcI_turn (X := X) rfl hD hI3 hl (fun M' n' => St.block (S.next n1) n' _ i g2) (hel s0 H2 C cl fp m x' g1 hd)
    | false =>
      rw [if_neg (by decide)]
      rw [take_snoc g1, List.filter_append, show List.filter g [x'] = [] by simp [hd], List.append_nil]
      exact hI3
  · rintro H' ⟨M', ws, n', mD, hh, pr⟩
    rw [e3.length, List.take_length] at pr
    exact q D M' H' ws (n1.trans n') (n1.ex.free hD) mD hh pr⟩
theorem lc_RF {f : Nat → β} {g : Nat → Bool} {j : Int} {p1 p2 : Pos} (hm : X.mg "range" = none) (he : E X G a tI j) (hj : -1000000 ≤ j ∧ j ≤ 1000000) (i : Nat)
    (htt : ∀ (s0 : Shared) (H : Hp) (C : Addr) (cl : List (Str × Addr)) (fp : List Addr) (m : Nat), (m : Int) < j → T (X.blk s0 H scope (compEnvC scope cl C X.env) fp) ((wipeG G (own.map (·.2))).set i (.vl tI (m : Int))) c (g m))
    (hel : ∀ (s0 : Shared) (H : Hp) (C : Addr) (cl : List (Str × Addr)) (fp : List Addr) (m : Nat), (m : Int) < j → g m = true → E (X.blk s0 H scope (compEnvC scope cl C X.env) fp) ((wipeG G (own.map (·.2))).set i (.vl tI (m : Int))) e t (f m))
    (ok : BlkOk X.N X.env.scope scope own)
    (hg : ∀ (s0 : Shared) (H : Hp) (C : Addr) (cl : List (Str × Addr)) (fp : List Addr), PG (X.blk s0 H scope (compEnvC scope cl C X.env) fp) (.Name n pn) (gName i)) (hio : i ∈ own.map (·.2) := by decide)
    (hgr : Gl X "range" := by rfl) (hst : starEach [a] X.env = [(false, eval a X.env)] := by rfl)
    (hs : ∀ x, foldedSetIterable (.Call (.Name "range" p1) [a] [] p2) X.env x = pure x := by intro _; rfl) : LC X G e (.Name n pn) (.Call (.Name "range" p1) [a] [] p2) [c] scope t (((List.range j.toNat).filter g).map f) := ⟨_, _, wBlkT X scope c, wBlk X scope e, own, (pi_range1 hgr hm (pa_cons pe_w pa_nil hst) hst), ok, hg, (fun s0 H C cl fp => pts_one (pt_blk s0 H C cl fp)), (fun s0 H C cl fp => pe_blk s0 H C cl fp), hs, fun {M0 H0 M H σ} S Q q => by
  refine he.run S _ fun v M1 H1 n1 r1 => ?_
  refine ⟨j, by rw [show v = V.int j from r1], by omega, by omega, fun D hD => lc_range (lo := 0) (n := j.toNat) (fun m H' => LcI X.K t M1 H1 D (((List.range m).filter g).map f) H') (lcI_start n1.sub hD) ?_ ?_⟩
  · intro m H' hm hI
    have e0 : (0 : Int) + (m : Int) = (m : Int) := Int.zero_add _
    rw [e0]
    refine ⟨wiped hio, fun s0 H2 C cl fp => lcI_test hI (fun M' n' => St.block (S.next n1) n' _ i (s := tI) (x := (m : Int)) rfl) (htt s0 H2 C cl fp m (by omega)) fun H3 hI3 => ?_⟩
    cases hd : g m with
    | true =>
      rw [if_pos rfl]
      intro s0 H2 C cl fp
      rw [List.range_succ, List.filter_append, List.map_append, show List.filter g [m] = [m] by simp [hd]]
      have hl : (((List.range m).filter g).map f).length < 1000000 := by
        have h2 := List.length_filter_le g (List.range m)
        rw [List.length_range] at h2
        rw [List.length_map]; omega
      exact lcI_turn (X := X) rfl hD hI3 hl (fun M' n' => St.block (S.next n1) n' _ i (s := tI) (x := (m : Int)) rfl) (hel s0 H2 C cl fp m (by omega) hd)
    | false =>
      rw [if_neg (by decide)]
      rw [List.range_succ, List.filter_append, show List.filter g [m] = [] by simp [hd], List.append_nil]
      exact hI3
  · rintro H' ⟨M', ws, n', mD, hh, pr⟩
    exact q D M' H' ws (n1.trans n') (n1.ex.free hD) mD hh pr⟩
end
end TL

namespace TL
open PySem PySem.Spec PyProof.Rows L2
section
variable {α β γ ι ρ : Type} {X : Cx} {G : List Sl} {a b c e : Expr} {es : List Expr} {st : Stmt} {rest th el body : List Stmt} {s : Ty α} {t : Ty β} {u : Ty γ} {x : α} {y : β} {z : γ} {pos : Pos} {i j : Int} {xs ys : List α} {p q : Bool} {R : Out} {k : Nat}

/-! ### xs[i] op= e, xs of the frame's own -/
theorem get_list : PGet X (rIxL X.K) := by
  intro pins s σ H o i ov iv Q I ro ri h
  obtain ⟨p, xs, k, z, rfl, rfl, hq, he, q⟩ := h
  cases ro
  obtain ⟨t, rfl⟩ := ri
  obtain ⟨its, r, pl, hz⟩ := I.list hq
  have hl := r.length
  have hn := line63
  obtain ⟨j, h1, h2, h3, h4, h5⟩ := atI_get he
  obtain ⟨w, ew, rw'⟩ := r.get h2
  have fin : EP X pins σ Q w s := ⟨z, H, I, rw', q⟩
  by_cases h0 : 0 ≤ k
  · have hj : k.toNat = j := by
      rw [seqIndex_of h0 h5] at h1
      exact Option.some.inj h1
    exact wpAny_getItem_list pl.isList h0 (by omega) (by rw [hj]; simpa using ew) fin
  · have hj : (k + (its.toArray.size : Int)).toNat = j := by
      rw [seqIndex_neg (by omega) h4] at h1
      rw [List.size_toArray, ← hl]
      exact Option.some.inj h1
    exact wpAny_getItem_list_neg pl.isList (by omega) (by rw [List.size_toArray] <;> omega) (by omega) (by rw [hj]; simpa using ew) fin
theorem s_augI (m : Nat) {n : Str} {p1 p2 : Pos} {ib : Expr} {ns : List Int} {l : Nat} {d : Int} (h0 : G[m]? = some (.ow tI ns)) (hib : E X G ib tI i) (he : E X G e tI j) (hl : ixN ns.length i = some l) (hd0 : ns[l]? = some d) (h : R.nx (G.set m (.ow tI (ns.set l (d + j))))) (hi : X.N[m]? = some n := by rfl)
    (hv : Vis X.env.scope n := by first | exact Or.inl rfl | exact Or.inr (Or.inl rfl) | exact Or.inr (Or.inr rfl))
    (hd : (n == ("__debug__" : Str)) = false := by decide) (hcd : (n == ("__classdict__" : Str)) = false := by decide)
    (ha : ∀ ov iv new, augStore ib ov iv new = (do holding [new, ov, iv] (setItem ov iv new); release [new, ov, iv] []; pure .next) := by intros; rfl) :
    S1 X G (.AugAssign (.Subscript (.Name n p1) ib p2) .Add e pos) R := ⟨fun D E S tk f => by
  refine ⟨_, ps_augS (pe_var hi hv hd hcd) pe_w get_list pe_w ip_add set_list ha, ?_⟩
  obtain ⟨a0, vs0, e0, hh0, _, _, _⟩ := S.putOwn (ys := ns) h0
  refine ⟨.ref a0, e0, hib.run S _ fun w M1 H1 n1 r1 => ?_⟩
  obtain ⟨a1, vs1, e1, hh1, mp1, pr1, _⟩ := (S.next n1).putOwn (ys := ns) h0
  rw [e0] at e1; cases e1
  have e4 := paired_int pr1
  subst e4
  have hat : atI (ns.map V.int) i = some (.int d) := by
    unfold atI
    rw [List.length_map, hl]
    show (ns.map V.int)[l]? = _
    rw [List.getElem?_map, hd0]; rfl
  refine ⟨a0, _, i, .int d, rfl, r1, SqL.of hh1, hat, he.run (S.next n1) _ fun w2 M2 H2 n2 r2 => ?_⟩
  refine ⟨d, j, rfl, r2, ?_⟩
  obtain ⟨a2, vs2, e2, hh2, mp2, pr2, upd'⟩ := (S.next (n1.trans n2)).putOwn (ys := ns.set l (d + j)) h0
  rw [e0] at e2; cases e2
  refine ⟨a0, vs2, i, l, rfl, r1, hh2, by rw [pr2.length]; exact hl, f.nx (upd' _ (paired_set (show tI.rep X.K _ (.int (d + j)) (d + j) from rfl) l pr2)) h⟩⟩
/-! ### a, b = e; for a, b in xs -/
theorem s_unp2 (m1 m2 : Nat) {n1 n2 : Str} {q1 q2 q3 : Pos} {kt : Nat} (he : E X G e (tP2 s t) (x, y)) (h : R.nx ((G.set m1 (.vl s x)).set m2 (.vl t y))) (hN : X.N.Nodup) (hcm : X.calm = true) (hi1 : X.N[m1]? = some n1 := by rfl) (hi2 : X.N[m2]? = some n2 := by rfl)
    (hx1 : Loc X.env.scope n1 := by first | exact Or.inl rfl | exact Or.inr rfl) (hx2 : Loc X.env.scope n2 := by first | exact Or.inl rfl | exact Or.inr rfl) (hf1 : X.fn n1 = true ∨ X.env.scope.names.lookup n1 = some .local := by first | exact .inl rfl | exact .inr rfl) (hf2 : X.fn n2 = true ∨ X.env.scope.names.lookup n2 = some .local := by first | exact .inl rfl | exact .inr rfl)
    (hs1 : (assignEach [.Name n1 q1, .Name n2 q2] X.env).map (·.2) = assign (.Name n1 q1) X.env :: (assignEach [.Name n2 q2] X.env).map (·.2) := by rfl) (hs2 : (assignEach [.Name n2 q2] X.env).map (·.2) = assign (.Name n2 q2) X.env :: (assignEach [] X.env).map (·.2) := by rfl)
    (hn : (assignEach [.Name n1 q1, .Name n2 q2] X.env).length = 2 := by rfl) (hst : (assignEach [.Name n1 q1, .Name n2 q2] X.env).findIdx? (·.1) = none := by rfl)
    (hs : swapsWithSole [.Tuple [.Name n1 q1, .Name n2 q2] kt q3] e pos.line X.env = pure false := by rfl) (hw : swappedStores [.Tuple [.Name n1 q1, .Name n2 q2] kt q3] e X.env = pure none := by rfl)
    (h1 : (assignEach [.Tuple [.Name n1 q1, .Name n2 q2] kt q3] X.env).map (·.2) = [assign (.Tuple [.Name n1 q1, .Name n2 q2] kt q3) X.env] := by rfl) :
    S1 X G (.Assign [.Tuple [.Name n1 q1, .Name n2 q2] kt q3] e pos) R := ⟨fun D E S tk f =>
  ⟨_, ps_asg pe_w (pg_tup hcm (pgs_cons (pg_name hN hi1 hx1 hf1) (pgs_cons (pg_name hN hi2 hx2 hf2) pgs_nil hs2) hs1) hn hst) hs hw h1, he.run S _ fun v M1 H1 n1 r1 => by
    obtain ⟨a, v1, v2, e1, e2, e3, e4⟩ := r1
    exact ⟨a, [v1, v2], e1, sqT_ext n1.sub e2, rfl, v1, [v2], rfl, v2, [], rfl, rfl, f.nx (((S.next n1).set (s := .vl s x) e3).set (s := .vl t y) e4) h⟩⟩⟩
theorem s_forL2 (m1 m2 : Nat) {n1 n2 : Str} {q1 q2 q3 : Pos} {kt : Nat} {zs : List (α × β)} (I : Nat → List Sl → Prop) (G0 : List Sl) (he : E X G a (tLst (tP2 s t)) zs) (w0 : Sub G G0) (h0 : I 0 G0)
    (hs : ∀ m x y G', zs[m]? = some (x, y) → I m G' → B X ((G'.set m1 (.vl s x)).set m2 (.vl t y)) body ⟨I (m + 1), R.rt, R.nx, I (m + 1), R.xc⟩) (hd : ∀ G', I zs.length G' → R.nx G')
    (hN : X.N.Nodup) (hcm : X.calm = true) (hi1 : X.N[m1]? = some n1 := by rfl) (hi2 : X.N[m2]? = some n2 := by rfl)
    (hx1 : Loc X.env.scope n1 := by first | exact Or.inl rfl | exact Or.inr rfl) (hx2 : Loc X.env.scope n2 := by first | exact Or.inl rfl | exact Or.inr rfl) (hf1 : X.fn n1 = true ∨ X.env.scope.names.lookup n1 = some .local := by first | exact .inl rfl | exact .inr rfl) (hf2 : X.fn n2 = true ∨ X.env.scope.names.lookup n2 = some .local := by first | exact .inl rfl | exact .inr rfl)
    (hs1 : (assignEach [.Name n1 q1, .Name n2 q2] X.env).map (·.2) = assign (.Name n1 q1) X.env :: (assignEach [.Name n2 q2] X.env).map (·.2) := by rfl) (hs2 : (assignEach [.Name n2 q2] X.env).map (·.2) = assign (.Name n2 q2) X.env :: (assignEach [] X.env).map (·.2) := by rfl)
    (hn : (assignEach [.Name n1 q1, .Name n2 q2] X.env).length = 2 := by rfl) (hst : (assignEach [.Name n1 q1, .Name n2 q2] X.env).findIdx? (·.1) = none := by rfl)
    (hp : PassesOwn (model X.prog X.w) X.A X.env X.xe := by first | exact PassesOwn.never | assumption)
    (hfs : ∀ x, foldedSetIterable a X.env x = pure x := by intro _; rfl) : S1 X G (.For (.Tuple [.Name n1 q1, .Name n2 q2] kt q3) a body [] pos) R := ⟨fun {M0 H0 M H σ} D E S tk f =>
  ⟨_, ps_for hp hcm (pi_list pe_w) (pg_tup hcm (pgs_cons (pg_name hN hi1 hx1 hf1) (pgs_cons (pg_name hN hi2 hx2 hf2) pgs_nil hs2) hs1) hn hst) pss_w hfs, he.run S _ fun v M1 H1 n1 r1 => by
    obtain ⟨p, vs, e1, e2, e3⟩ := r1
    have n0 := S.nx.trans n1
    refine ⟨p, e1, ⟨vs, SqL.of (n1.sub _ _ e2)⟩, for_list (K := X.K) (a := p) (xs := vs) (fun m σ' H' => ∃ M' G', St X.K M1 H0 M' H' σ' G' ∧ I m G') ⟨M1, G0, ((S.next n1).weak w0).rebase, h0⟩ (fun m σ' H' _ ⟨M', G', S', _⟩ => SqL.of (S'.sub _ _ (S'.nx.vx _ _ e2))) ?_ ?_⟩
    · rintro m w σ' H' hm ⟨M', G', S', hI⟩
      obtain ⟨⟨x', y'⟩, g1, g2⟩ := paired_get' e3 hm
      obtain ⟨pa, v1, v2, f1, f2, f3, f4⟩ := g2
      exact ⟨pa, [v1, v2], f1, sqT_ext (S'.nx.vx.trans S'.sub) f2, rfl, v1, [v2], rfl, v2, [], rfl, rfl, (hs m x' y' G' g1 hI).run _ E ((S'.set (s := .vl s x') (v := v1) (s.ext S'.nx.vx f3)).set (s := .vl t y') (v := v2) (t.ext S'.nx.vx f4)) tk
        ⟨fun S2 h2 => ⟨_, _, S2, h2⟩, fun n2 h2 => f.rt (n0.unbase n2) h2, fun S2 h2 => f.nx (S2.unbase n0) h2, fun S2 h2 => ⟨_, _, S2, h2⟩, fun n2 h2 => f.xc (n0.unbase n2) h2⟩⟩
    · rintro σ' H' ⟨M', G', S', hI⟩
      rw [e3.length] at hI
      exact f.nx (S'.unbase n0) (hd G' hI)⟩⟩
/-! ### fields -/
theorem e_fld {C : Addr} {fs : α → List (Str × Cl)} {nm : Str} {cl : Cl} (he : E X G a (tOb C fs) x) (hc : Cls X.K C) (hn : NoAttr X.K C nm) (hl : (fs x).lookup nm = some cl) (hb : attributeBase a nm X.env (eval a X.env) = eval a X.env := by rfl) : E X G (.Attribute a nm pos) cl.t cl.x := ⟨fun S Q k =>
  ⟨_, pe_fld pe_w hb, he.run S _ fun v M1 H1 n1 r1 => by
    obtain ⟨p, dx, vs, e1, e2, e3⟩ := r1
    obtain ⟨w, g1, g2⟩ := freps_lookup e3 hl
    exact ⟨p, C, dx, vs, w, e1, n1.sub _ _ e2, hc, hn, g1, k w M1 H1 n1 g2⟩⟩⟩
theorem lookup_putF_reps {K : Fg} {M : Hp} {f : Str} {v : V} {c : Cl} (h : c.t.rep K M v c.x) : ∀ {vs : List (Str × V)} {cs : List (Str × Cl)}, FReps K M vs cs → cs.lookup f = none → FReps K M (putF f v vs) (cs ++ [(f, c)])
  | _, _, .nil, _ => .cons h .nil
  | _, _, .cons (f := g) (v := u) (c := d) h' r, e => by
    by_cases z : f = g
    · subst z; simp [List.lookup] at e
    · have z' : (f == g) = false := by simpa using z
      simp only [List.lookup, z'] at e
      show FReps K M (if g = f then _ else _) _
      rw [if_neg (Ne.symm z)]
      exact .cons h' (lookup_putF_reps h r e)
/-- self.f = e, the first store to this field -/
theorem s_fldNew (m : Nat) {n : Str} {p1 p2 : Pos} {p dx C : Addr} {fs : List (Str × Cl)} {nm : Str} (h0 : G[m]? = some (.ob p dx C fs)) (he : E X G e s x) (hc : Cls X.K C) (hna : NoAttr X.K C nm) (hl : fs.lookup nm = none) (hz : fs.length < 1000) (h : R.nx (G.set m (.ob p dx C (fs ++ [(nm, ⟨s, x⟩)])))) (hi : X.N[m]? = some n := by rfl)
    (hv : Vis X.env.scope n := by first | exact Or.inl rfl | exact Or.inr (Or.inl rfl) | exact Or.inr (Or.inr rfl))
    (hd : (n == ("__debug__" : Str)) = false := by decide) (hcd : (n == ("__classdict__" : Str)) = false := by decide)
    (hs : swapsWith e (some (.Attribute (.Name n p1) nm p2)) pos.line X.env = pure false := by rfl) : S1 X G (.Assign [.Attribute (.Name n p1) nm p2] e pos) R := ⟨fun D E S tk f => by
  refine ⟨_, ps_fld (pe_var hi hv hd hcd) pe_w hs, he.run S _ fun v M1 H1 n1 r1 => ?_⟩
  obtain ⟨vs, e1, hh, hm, fr, upd'⟩ := (S.next n1).putOb (fs' := fs ++ [(nm, ⟨s, x⟩)]) h0
  exact ⟨.ref p, e1, p, C, dx, vs, rfl, hh, hc, hna, by rw [freps_len fr]; exact hz, f.nx (upd' _ (lookup_putF_reps (c := ⟨s, x⟩) r1 fr hl)) h⟩⟩
/-! ### __init__ and C(..) -/
/-- the promise of an __init__: it leaves an instance with these fields -/
def spI (K : Fg) (C : Addr) (ar : ι → List Sl) (pre : ι → Prop) (fs : ι → List (Str × Cl)) : Sp := fun vs H Q _ =>
  ∃ (i : ι) (M H1 : Hp) (x dx : Addr) (vs' : List V), vs = .ref x :: vs' ∧ Same M H1 ∧ H1 x = none ∧ H1 dx = none ∧ dx ≠ x ∧ H = upd (upd H1 dx (.own x)) x (.ins C dx []) ∧ Reps K M vs' (ar i) ∧ pre i ∧
    ∀ M' H' us, Nx M H1 M' H' → M' x = none → M' dx = none → H' x = some (.ins C dx us) → H' dx = some (.own x) → FReps K M' us (fs i) → Q .non H'
theorem e_make {P : Program} {w : World} {K : Fg} {mg : Str → Option Value} {base : Heap} {n : Str} {C f : Addr} {fd : FuncData} {ps : List Str} {ar : ι → List Sl} {pre : ι → Prop} {fs : ι → List (Str × Cl)} {p : Pos} (M : Mk K C f) (F : FnOk P w K mg base CX0 k f fd ps (spI K C ar pre fs)) (hr : Room (k + 1) X.A) (hm : mg n = some (.ref C)) (hb : Binds K fd ps []) (i : ι) (ha : EA X G (e :: es) (ar i)) (hp : pre i)
    (hg : Gl X n := by rfl) (hdb : (n == ("__debug__" : Str)) = false := by decide) (he : starEach (e :: es) X.env = (false, eval e X.env) :: starEach es X.env := by rfl) (hpl : (backTo pos (starEach es X.env)).any (·.1) = false := by rfl)
    (xP : X.prog = P := by rfl) (xw : X.w = w := by rfl) (xK : X.K = K := by rfl) (xm : X.mg = mg := by rfl) (xb : X.base = base := by rfl) : E X G (.Call (.Name n p) (e :: es) [] pos) (tOb C fs) i := ⟨fun S Q q => by
  subst xP xw xK xm xb
  exact ⟨_, pe_make M F hr hg hm hb .nil pass0 pa_w hdb he hpl, ha.run S _ fun vs M1 H1 n1 r1 => fun x dx hx hdx ne => by
    rw [List.append_nil]
    refine ⟨i, M1, H1, x, dx, vs, rfl, n1.sub, hx, hdx, ne, rfl, r1, hp, fun M' H' us n2 mx md hh hd fr => ⟨rfl, ?_⟩⟩
    refine q _ (upd M' x (.ins C dx us)) H' (n1.trans ⟨n2.ex, n2.vx.trans (same_new mx), fun b o e => ?_, fun b q1 q2 => ?_⟩) ⟨x, dx, us, rfl, upd_same, freps_ext (same_new mx) fr⟩
    · by_cases z : b = x
      · subst z; rw [upd_same] at e; cases e; exact hh
      · rw [upd_ne z] at e; exact n2.sub b o e
    · rw [upd_ne (fun z => q2 (by rw [z]; exact hx))]; exact n2.fr b q1 q2⟩⟩
/-- the state at an __init__'s entry -/
theorem st_startI {K : Fg} {M H1 : Hp} {C x dx : Addr} {vs : List V} {ss : List Sl} {N : List Str} {n : Nat} (m : Same M H1) (hx : H1 x = none) (hdx : H1 dx = none) (ne : dx ≠ x) (r : Reps K M vs ss) (hn : N.length = ss.length + 1 + n) :
    St K M H1 M (upd (upd H1 dx (.own x)) x (.ins C dx [])) (L2.start N (.ref x :: vs)) (.ob x dx C [] :: (ss ++ List.replicate n .un)) := by
  have hl := reps_len r
  have nx1 : Nx M H1 M (upd (upd H1 dx (.own x)) x (.ins C dx [])) := by
    have e1 := nx_lay (o := .own x) m hdx
    have e2 := nx_lay (o := .ins C dx []) e1.sub (p := x) (by rw [upd_ne ne.symm]; exact hx)
    exact ⟨e1.ex.trans e2.ex, Same.refl _, e2.sub, fun _ q _ => q⟩
  obtain ⟨N1, N2, hN⟩ : ∃ n1 N', N = n1 :: N' := by
    cases N with
    | nil => simp at hn; omega
    | cons a b => exact ⟨a, b, rfl⟩
  have S0 := (st_start (N := N2) (K := K) (n := n) m r (by rw [hN] at hn; simp at hn; omega)).next nx1
  obtain ⟨A, h1, h2⟩ := S0.sl
  have noown : ∀ (j : Nat) (t' : Sl), (ss ++ List.replicate n Sl.un)[j]? = some t' → t'.own = false := fun j t' e => by
    by_cases h : j < ss.length
    · rw [List.getElem?_append_left h] at e; exact reps_noown r e
    · rw [List.getElem?_append_right (Nat.le_of_not_lt h)] at e
      obtain ⟨l, e3⟩ := List.getElem?_eq_some_iff.mp e
      rw [List.getElem_replicate] at e3
      subst e3; rfl
  refine ⟨nx1, ?_, fun j => if j = 0 then [x] else A (j - 1), fun j u e => ?_, fun j l u v e1 e2 o1 o2 nn y hy => ?_⟩
  · unfold L2.start
    rw [hN]
    simp only [List.map_cons, List.length_append, List.length_cons, List.length_map, List.length_replicate]
    rw [hN] at hn; simp at hn; omega
  · cases j with
    | zero =>
      simp at e
      subst e
      exact ⟨some (.ref x), by unfold L2.start; rfl, rfl, rfl, hx, same_none m hx, [], upd_same, by rw [upd_ne ne, upd_same], hdx, same_none m hdx, .nil⟩
    | succ j =>
      have e' : (ss ++ List.replicate n Sl.un)[j]? = some u := by simpa using e
      obtain ⟨o, q1, q2⟩ := h1 j u e'
      refine ⟨o, ?_, ?_⟩
      · unfold L2.start at q1 ⊢
        rw [hN]
        simp only [List.map_cons, List.cons_append, List.length_cons, List.getElem?_cons_succ, Nat.add_sub_add_right]
        exact q1
      · show Ok1 K H1 M _ o (if j + 1 = 0 then [x] else A (j + 1 - 1)) u
        rw [if_neg (Nat.succ_ne_zero j)]
        exact q2
  · cases j with
    | zero =>
      cases l with
      | zero => exact absurd rfl nn
      | succ l => rw [noown l v (by simpa using e2)] at o2; cases o2
    | succ j => rw [noown j u (by simpa using e1)] at o1; cases o1
theorem fn_init {P : Program} {w : World} {K : Fg} {mg : Str → Option Value} {base : Heap} {x qual : Str} {st : Stmt} {f C : Addr} {fd : FuncData} {N ps : List Str} {k : Nat} {ar : ι → List Sl} {pre : ι → Prop} {fs : ι → List (Str × Cl)} (F : Fun K x qual st f fd) (S : FnScope N ps (defScope st)) (n : Nat)
    (hn : N.length = ps.length + n) (hl : ∀ i, (ar i).length + 1 = ps.length)
    (hb : ∀ (cdv : Value) (A : Around) (outer : List Env) (s : Shared) (H : Hp) (E : XK), Room k (A.deeper (envOfC qual (defScope st) s.heap.objs.size f cdv)) → ∀ i p dx, pre i →
      B (cxOf CX0 P w K mg base N qual (defScope st) f cdv A outer s H E).nox (.ob p dx C [] :: (ar i ++ List.replicate n .un)) (defBody st) { nx := fun G' => G'[0]? = some (.ob p dx C (fs i)), rt := fun _ _ => False }) : FnOk P w K mg base CX0 (k + 1) f fd ps (spI K C ar pre fs) := by
  refine F.ok S (fun vs H Q E h => ?_) (fun cdv A outer s H vs Q E hr h => ⟨_, pss_w, ?_⟩)
  · obtain ⟨i, M, H1, x, dx, vs', rfl, _, _, _, _, _, r, _⟩ := h
    rw [List.length_cons, reps_len r, hl]
  · obtain ⟨i, M, H1, x, dx, vs', rfl, m, hx, hdx, ne, rfl, r, hp, q⟩ := h
    refine (hb cdv A outer s _ E hr i x dx hp).run _ (fun _ _ _ => False) (st_startI m hx hdx ne r (by have := hl i; omega)) takes_false ⟨fun {M' H' σ' G'} S' h => ?_, fun n2 h => h.elim, fun _ h => h.elim, fun _ h => h.elim, fun _ h => h.elim⟩
    obtain ⟨us, e1, e2, e3, e4, e5, e6⟩ := S'.getOb h
    exact q _ _ us S'.nx e4 e5 e2 e3 e6
end
end TL

namespace TL
open PySem PySem.Spec PyProof.Rows L2
theorem kb_NoneType_int : kitB "NoneType" "int" = some false := by decide +kernel
theorem kb_NoneType_bool : kitB "NoneType" "bool" = some false := by decide +kernel
theorem kb_NoneType_str : kitB "NoneType" "str" = some false := by decide +kernel
theorem kb_NoneType_list : kitB "NoneType" "list" = some false := by decide +kernel
theorem kb_NoneType_tuple : kitB "NoneType" "tuple" = some false := by decide +kernel
theorem kb_bool_int : kitB "bool" "int" = some true := by decide +kernel
theorem kb_bool_bool : kitB "bool" "bool" = some true := by decide +kernel
theorem kb_bool_str : kitB "bool" "str" = some false := by decide +kernel
theorem kb_bool_list : kitB "bool" "list" = some false := by decide +kernel
theorem kb_bool_tuple : kitB "bool" "tuple" = some false := by decide +kernel
theorem kb_int_int : kitB "int" "int" = some true := by decide +kernel
theorem kb_int_bool : kitB "int" "bool" = some false := by decide +kernel
theorem kb_int_str : kitB "int" "str" = some false := by decide +kernel
theorem kb_int_list : kitB "int" "list" = some false := by decide +kernel
theorem kb_int_tuple : kitB "int" "tuple" = some false := by decide +kernel
theorem kb_str_int : kitB "str" "int" = some false := by decide +kernel
theorem kb_str_bool : kitB "str" "bool" = some false := by decide +kernel
theorem kb_str_str : kitB "str" "str" = some true := by decide +kernel
theorem kb_str_list : kitB "str" "list" = some false := by decide +kernel
theorem kb_str_tuple : kitB "str" "tuple" = some false := by decide +kernel
theorem kb_list_int : kitB "list" "int" = some false := by decide +kernel
theorem kb_list_bool : kitB "list" "bool" = some false := by decide +kernel
theorem kb_list_str : kitB "list" "str" = some false := by decide +kernel
theorem kb_list_list : kitB "list" "list" = some true := by decide +kernel
theorem kb_list_tuple : kitB "list" "tuple" = some false := by decide +kernel
theorem kb_tuple_int : kitB "tuple" "int" = some false := by decide +kernel
theorem kb_tuple_bool : kitB "tuple" "bool" = some false := by decide +kernel
theorem kb_tuple_str : kitB "tuple" "str" = some false := by decide +kernel
theorem kb_tuple_list : kitB "tuple" "list" = some false := by decide +kernel
theorem kb_tuple_tuple : kitB "tuple" "tuple" = some true := by decide +kernel
/-! ### data: what type it has -/
def tyN : PyData → String
  | .none => "NoneType"
  | .bool _ => "bool"
  | .int _ => "int"
  | .str _ => "str"
  | .list _ => "list"
  | .tuple _ => "tuple"
  | .dict _ => "dict"
def isID : PyData → Bool
  | .int _ => true
  | .bool _ => true
  | _ => false
theorem kbI : ∀ d : PyData, kitB (tyN d) "int" = some (isID d)
  | .none => (by decide +kernel : kitB "NoneType" "int" = some false)
  | .bool _ => (by decide +kernel : kitB "bool" "int" = some true)
  | .int _ => (by decide +kernel : kitB "int" "int" = some true)
  | .str _ => (by decide +kernel : kitB "str" "int" = some false)
  | .list _ => (by decide +kernel : kitB "list" "int" = some false)
  | .tuple _ => (by decide +kernel : kitB "tuple" "int" = some false)
  | .dict _ => (by decide +kernel : kitB "dict" "int" = some false)
def isBD : PyData → Bool
  | .bool _ => true
  | _ => false
theorem kbB : ∀ d : PyData, kitB (tyN d) "bool" = some (isBD d)
  | .none => (by decide +kernel : kitB "NoneType" "bool" = some false)
  | .bool _ => (by decide +kernel : kitB "bool" "bool" = some true)
  | .int _ => (by decide +kernel : kitB "int" "bool" = some false)
  | .str _ => (by decide +kernel : kitB "str" "bool" = some false)
  | .list _ => (by decide +kernel : kitB "list" "bool" = some false)
  | .tuple _ => (by decide +kernel : kitB "tuple" "bool" = some false)
  | .dict _ => (by decide +kernel : kitB "dict" "bool" = some false)
def isSD : PyData → Bool
  | .str _ => true
  | _ => false
theorem kbS : ∀ d : PyData, kitB (tyN d) "str" = some (isSD d)
  | .none => (by decide +kernel : kitB "NoneType" "str" = some false)
  | .bool _ => (by decide +kernel : kitB "bool" "str" = some false)
  | .int _ => (by decide +kernel : kitB "int" "str" = some false)
  | .str _ => (by decide +kernel : kitB "str" "str" = some true)
  | .list _ => (by decide +kernel : kitB "list" "str" = some false)
  | .tuple _ => (by decide +kernel : kitB "tuple" "str" = some false)
  | .dict _ => (by decide +kernel : kitB "dict" "str" = some false)
def isLD : PyData → Bool
  | .list _ => true
  | _ => false
theorem kbL : ∀ d : PyData, kitB (tyN d) "list" = some (isLD d)
  | .none => (by decide +kernel : kitB "NoneType" "list" = some false)
  | .bool _ => (by decide +kernel : kitB "bool" "list" = some false)
  | .int _ => (by decide +kernel : kitB "int" "list" = some false)
  | .str _ => (by decide +kernel : kitB "str" "list" = some false)
  | .list _ => (by decide +kernel : kitB "list" "list" = some true)
  | .tuple _ => (by decide +kernel : kitB "tuple" "list" = some false)
  | .dict _ => (by decide +kernel : kitB "dict" "list" = some false)
def isTD : PyData → Bool
  | .tuple _ => true
  | _ => false
theorem kbT : ∀ d : PyData, kitB (tyN d) "tuple" = some (isTD d)
  | .none => (by decide +kernel : kitB "NoneType" "tuple" = some false)
  | .bool _ => (by decide +kernel : kitB "bool" "tuple" = some false)
  | .int _ => (by decide +kernel : kitB "int" "tuple" = some false)
  | .str _ => (by decide +kernel : kitB "str" "tuple" = some false)
  | .list _ => (by decide +kernel : kitB "list" "tuple" = some false)
  | .tuple _ => (by decide +kernel : kitB "tuple" "tuple" = some true)
  | .dict _ => (by decide +kernel : kitB "dict" "tuple" = some false)
/-- an int that is no bool -/
def wholeD : PyData → Bool
  | .int _ => true
  | _ => false
theorem wholeD_eq (d : PyData) : wholeD d = (isID d && !isBD d) := by cases d <;> rfl
def spWhole (K : Fg) : Sp := spG K (fun d : PyData => [.vl tD d]) (fun _ => True) tB wholeD
theorem tyx_L {K : Fg} {M H : Hp} {a : Addr} {vs : List V} (m : Same M H) (h : SqL K M a vs) : TyX K H (.ref a) (.type "list") := by
  rcases h with (h | ⟨o, h⟩) | ⟨o, its, n, h1, h2, _⟩
  · exact .base (.lst (m _ _ h))
  · exact .base (.frz (m _ _ h))
  · exact .kList h1 h2
theorem tyx_T {K : Fg} {M H : Hp} {a : Addr} {vs : List V} (m : Same M H) (h : SqT K M a vs) : TyX K H (.ref a) (.type "tuple") := by
  rcases h with (h | ⟨o, h⟩) | ⟨o, its, n, h1, h2, _⟩
  · exact .base (.tup (m _ _ h))
  · exact .fTuple (m _ _ h)
  · exact .kTuple h1 h2
theorem tyx_D {K : Fg} {M H : Hp} {v : V} {d : PyData} (m : Same M H) (h : Dp K M v d) : TyX K H v (.type (tyN d)) := by
  cases h with
  | non => exact .base .non
  | bl b => exact .base (.bl b)
  | int i => exact .base (.int i)
  | str x => exact .base (.str x)
  | lst h1 h2 => exact tyx_L m h1
  | tup h1 h2 => exact tyx_T m h1
section
variable {α β γ ι ρ : Type} {X : Cx} {G : List Sl} {a b c e : Expr} {es : List Expr} {s : Ty α} {t : Ty β} {x : α} {y : β} {pos : Pos} {k : Nat}
theorem e_Tlist (b : X.mg "list" = none) (hg : Gl X "list" := by rfl) : E X G (.Name "list" pos) tC (.ty "list") := e_ty (nm := "list") b (by decide +kernel) hg
theorem e_Ttuple (b : X.mg "tuple" = none) (hg : Gl X "tuple" := by rfl) : E X G (.Name "tuple" pos) tC (.ty "tuple") := e_ty (nm := "tuple") b (by decide +kernel) hg
theorem e_Tint (b : X.mg "int" = none) (hg : Gl X "int" := by rfl) : E X G (.Name "int" pos) tC (.ty "int") := e_ty (nm := "int") b (by decide +kernel) hg
theorem e_Tbool (b : X.mg "bool" = none) (hg : Gl X "bool" := by rfl) : E X G (.Name "bool" pos) tC (.ty "bool") := e_ty (nm := "bool") b (by decide +kernel) hg
theorem e_Tstr (b : X.mg "str" = none) (hg : Gl X "str" := by rfl) : E X G (.Name "str" pos) tC (.ty "str") := e_ty (nm := "str") b (by decide +kernel) hg
/-- isinstance(x, T), T a built-in type, x data -/
theorem e_isD {p : Pos} {nm : String} {d : Bool} {dd : PyData} (hm : X.mg "isinstance" = none) (ha : E X G a s x) (hb : E X G b tC (.ty nm)) (ht : ∀ M v, s.rep X.K M v x → Dp X.K M v dd) (hk : kitB (tyN dd) nm = some d) (hg : Gl X "isinstance" := by rfl)
    (he : starEach [a, b] X.env = (false, eval a X.env) :: starEach [b] X.env := by rfl) (he2 : starEach [b] X.env = (false, eval b X.env) :: starEach [] X.env := by rfl) (hpl : (backTo pos (starEach [b] X.env)).any (·.1) = false := by rfl) : E X G (.Call (.Name "isinstance" p) [a, b] [] pos) tB d :=
  e_isi hm ha hb (fun M v r => ⟨.type (tyN dd), .type nm, .ty nm, fun H m => tyx_D m (ht M v r), kit_ty hk⟩) hg he he2 hpl
/-- isinstance(x, C), C a class of one's own, x data: no -/
theorem kit_own_no {K : Fg} {nm : String} {C : Addr} (h : PySem.W.kitOne K (.type nm) (.ref C) = some false) : PySem.W.kitOne K (.type nm) (.ref C) = some false := h
/-- isinstance(x, (A, B)), built-in types -/
theorem e_isD2 {p p1 : Pos} {n : Nat} {nm1 nm2 : String} {d1 d2 : Bool} {dd : PyData} (hm : X.mg "isinstance" = none) (ha : E X G a s x) (hb : E X G b tC (.ty nm1)) (hc : E X G c tC (.ty nm2)) (ht : ∀ M v, s.rep X.K M v x → Dp X.K M v dd) (hk1 : kitB (tyN dd) nm1 = some d1) (hk2 : kitB (tyN dd) nm2 = some d2) (hg : Gl X "isinstance" := by rfl)
    (he : starEach [a, .Tuple [b, c] n p1] X.env = (false, eval a X.env) :: starEach [.Tuple [b, c] n p1] X.env := by rfl) (he2 : starEach [.Tuple [b, c] n p1] X.env = (false, eval (.Tuple [b, c] n p1) X.env) :: starEach [] X.env := by rfl) (hpl : (backTo pos (starEach [.Tuple [b, c] n p1] X.env)).any (·.1) = false := by rfl)
    (hs : starEach [b, c] X.env = (false, eval b X.env) :: starEach [c] X.env := by rfl) (hs2 : starEach [c] X.env = (false, eval c X.env) :: starEach [] X.env := by rfl) : E X G (.Call (.Name "isinstance" p) [a, .Tuple [b, c] n p1] [] pos) tB (d1 || d2) := ⟨fun S Q k =>
  ⟨_, pe_callB call_isiT hg hm (by decide +kernel) (pa_cons pe_w (pa_cons (pe_tup (pa_cons pe_w (pa_cons pe_w pa_nil hs2) hs)) pa_nil he2) he) (by decide) (by decide) he hpl, ha.run S _ fun v M1 H1 n1 r1 => hb.run (S.next n1) _ fun w M2 H2 n2 r2 => hc.run (S.next (n1.trans n2)) _ fun w' M3 H3 n3 r3 => ⟨by show 2 ≤ sizeLine; decide, fun q hq => by
    have nn := Nx.new (o := .tup [w, w']) n3.sub hq
    refine ⟨v, q, [w, w'], .type (tyN dd), [.type nm1, .type nm2], d1 || d2, rfl, upd_same, ?_, tyx_D (((n2.vx.trans n3.vx).trans n3.sub).trans (same_new hq)) (ht M1 v r1), ?_, k _ _ _ (((n1.trans n2).trans n3).trans nn) rfl⟩
    · rw [show w = V.ty nm1 from r2, show w' = V.ty nm2 from r3]; exact .cons (.ty nm1) (.cons (.ty nm2) .nil)
    · refine kitAny_cons (kit_ty hk1) (fun h => ?_) (fun h => by rw [h]; rfl)
      refine kitAny_cons (kit_ty hk2) (fun h' => ?_) (fun h' => by rw [h']; simp)
      rw [h, h']; rfl⟩⟩⟩
end
/-! ### typed things as data -/
section
variable {K : Fg} {M : Hp} {v : V} {α : Type} {s : Ty α} {f : α → PyData}
theorem dp_I {i : Int} (h : tI.rep K M v i) : Dp K M v (.int i) := by rw [show v = V.int i from h]; exact .int i
theorem dp_B {i : Bool} (h : tB.rep K M v i) : Dp K M v (.bool i) := by rw [show v = V.bl i from h]; exact .bl i
theorem dp_S {i : Str} (h : tS.rep K M v i) : Dp K M v (.str i) := by rw [show v = V.str i from h]; exact .str i
theorem dp_N (h : tN.rep K M v ()) : Dp K M v .none := by rw [show v = V.non from h]; exact .non
theorem dp_all (hf : ∀ v x, s.rep K M v x → Dp K M v (f x)) : ∀ {vs : List V} {xs : List α}, Paired (s.rep K M) vs xs → DpAll K M vs (xs.map f)
  | _, _, .nil => .nil
  | _, _, .cons h t => .cons (hf _ _ h) (dp_all hf t)
theorem dp_T (hf : ∀ v x, s.rep K M v x → Dp K M v (f x)) {xs : List α} (h : (tTup s).rep K M v xs) : Dp K M v (.tuple (xs.map f)) := by
  obtain ⟨a, vs, rfl, h2, h3⟩ := h
  exact .tup h2 (dp_all hf h3)
theorem dp_L (hf : ∀ v x, s.rep K M v x → Dp K M v (f x)) {xs : List α} (h : (tLst s).rep K M v xs) : Dp K M v (.list (xs.map f)) := by
  obtain ⟨a, vs, rfl, h2, h3⟩ := h
  exact .lst (SqL.of h2) (dp_all hf h3)
theorem pd_I {i : Int} (h : Dp K M v (.int i)) : tI.rep K M v i := by cases h; rfl
theorem pd_all (hf : ∀ v x, Dp K M v (f x) → s.rep K M v x) : ∀ {vs : List V} {xs : List α}, DpAll K M vs (xs.map f) → Paired (s.rep K M) vs xs
  | _, [], h => by
    cases h; exact .nil
  | _, x :: xs, h => by
    cases h with
    | cons h t => exact .cons (hf _ _ h) (pd_all hf t)
theorem pd_T (hf : ∀ v x, Dp K M v (f x) → s.rep K M v x) {xs : List α} (h : Dp K M v (.tuple (xs.map f))) : (tTup s).rep K M v xs := by
  cases h with
  | tup h1 h2 => exact ⟨_, _, rfl, h1, pd_all hf h2⟩
/-- a row of ints, a table of ints as data -/
def dRow (xs : List Int) : PyData := .tuple (xs.map .int)
def dTab (xs : List (List Int)) : PyData := .tuple (xs.map dRow)
def dRowL (xs : List Int) : PyData := .list (xs.map .int)
def dTabL (xs : List (List Int)) : PyData := .list (xs.map dRowL)
theorem dp_row {xs : List Int} (h : (tTup tI).rep K M v xs) : Dp K M v (dRow xs) := dp_T (fun _ _ => dp_I) h
theorem dp_tab {xs : List (List Int)} (h : (tTup (tTup tI)).rep K M v xs) : Dp K M v (dTab xs) := dp_T (fun _ _ => dp_row) h
theorem dp_rowL {xs : List Int} (h : (tLst tI).rep K M v xs) : Dp K M v (dRowL xs) := dp_L (fun _ _ => dp_I) h
theorem dp_tabL {xs : List (List Int)} (h : (tLst (tLst tI)).rep K M v xs) : Dp K M v (dTabL xs) := dp_L (fun _ _ => dp_rowL) h
theorem pd_row {xs : List Int} (h : Dp K M v (dRow xs)) : (tTup tI).rep K M v xs := pd_T (fun _ _ => pd_I) h
theorem pd_tab {xs : List (List Int)} (h : Dp K M v (dTab xs)) : (tTup (tTup tI)).rep K M v xs := pd_T (fun _ _ => pd_row) h
end
/-! ### frozen -/
mutual
def frz : PyData → PyData
  | .list ds => .tuple (frzAll ds)
  | .tuple ds => .tuple (frzAll ds)
  | .none => .none
  | .bool b => .bool b
  | .int i => .int i
  | .str s => .str s
  | .dict kvs => .dict kvs
def frzAll : List PyData → List PyData
  | [] => []
  | d :: ds => frz d :: frzAll ds
end
theorem frzAll_map : ∀ ds : List PyData, frzAll ds = ds.map frz
  | [] => by rw [frzAll]; rfl
  | d :: ds => by rw [frzAll, frzAll_map ds]; rfl
/-- not deeper than n, no list too long -/
def Fit : Nat → PyData → Prop
  | n + 1, .list ds => ds.length ≤ 1000000 ∧ ∀ d ∈ ds, Fit n d
  | n + 1, .tuple ds => ds.length ≤ 1000000 ∧ ∀ d ∈ ds, Fit n d
  | 0, .list _ => False
  | 0, .tuple _ => False
  | _, .dict _ => False
  | _, _ => True
theorem frz_int (i : Int) : frz (.int i) = .int i := by rw [frz]
theorem frz_dRow (xs : List Int) : frz (dRow xs) = dRow xs := by
  unfold dRow; rw [frz, frzAll_map, List.map_map]; congr 1
theorem frz_dRowL (xs : List Int) : frz (dRowL xs) = dRow xs := by
  unfold dRow dRowL; rw [frz, frzAll_map, List.map_map]; congr 1
theorem frz_dTab (xs : List (List Int)) : frz (dTab xs) = dTab xs := by
  unfold dTab; rw [frz, frzAll_map, List.map_map]; congr 1
  exact List.map_congr_left (fun i _ => frz_dRow i)
theorem frz_dTabL (xs : List (List Int)) : frz (dTabL xs) = dTab xs := by
  unfold dTab dTabL; rw [frz, frzAll_map, List.map_map]; congr 1
  exact List.map_congr_left (fun i _ => frz_dRowL i)
theorem fit_row {n : Nat} {xs : List Int} (h : xs.length ≤ 1000000) : Fit (n + 1) (dRow xs) := ⟨by rw [List.length_map]; exact h, fun d hd => by
  obtain ⟨i, _, rfl⟩ := List.mem_map.mp hd
  cases n <;> trivial⟩
theorem fit_rowL {n : Nat} {xs : List Int} (h : xs.length ≤ 1000000) : Fit (n + 1) (dRowL xs) := ⟨by rw [List.length_map]; exact h, fun d hd => by
  obtain ⟨i, _, rfl⟩ := List.mem_map.mp hd
  cases n <;> trivial⟩
theorem fit_tab {n : Nat} {xs : List (List Int)} (h : xs.length ≤ 1000000) (h2 : ∀ x ∈ xs, x.length ≤ 1000000) : Fit (n + 2) (dTab xs) := ⟨by rw [List.length_map]; exact h, fun d hd => by
  obtain ⟨i, hi, rfl⟩ := List.mem_map.mp hd
  exact fit_row (h2 i hi)⟩
theorem fit_tabL {n : Nat} {xs : List (List Int)} (h : xs.length ≤ 1000000) (h2 : ∀ x ∈ xs, x.length ≤ 1000000) : Fit (n + 2) (dTabL xs) := ⟨by rw [List.length_map]; exact h, fun d hd => by
  obtain ⟨i, hi, rfl⟩ := List.mem_map.mp hd
  exact fit_rowL (h2 i hi)⟩
def spFz (K : Fg) (n : Nat) : Sp := spG K (fun d : PyData => [.vl tD d]) (fun d => Fit n d) tD frz
theorem rep_DL {K : Fg} {M : Hp} {v : V} {ds : List PyData} (h : Dp K M v (.list ds)) : ∃ a vs, v = .ref a ∧ SqL K M a vs ∧ Paired (tD.rep K M) vs ds := by
  cases h with
  | lst h1 h2 =>
    refine ⟨_, _, rfl, h1, ?_⟩
    have : ∀ {vs : List V} {ds : List PyData}, DpAll K M vs ds → Paired (tD.rep K M) vs ds := by
      intro vs ds
      induction ds generalizing vs with
      | nil => intro h; cases h; exact .nil
      | cons d ds ih => intro h; cases h with | cons a b => exact .cons a (ih b)
    exact this h2
theorem rep_DT {K : Fg} {M : Hp} {v : V} {ds : List PyData} (h : Dp K M v (.tuple ds)) : (tTup tD).rep K M v ds := by
  cases h with
  | tup h1 h2 =>
    refine ⟨_, _, rfl, h1, ?_⟩
    have : ∀ {vs : List V} {ds : List PyData}, DpAll K M vs ds → Paired (tD.rep K M) vs ds := by
      intro vs ds
      induction ds generalizing vs with
      | nil => intro h; cases h; exact .nil
      | cons d ds ih => intro h; cases h with | cons a b => exact .cons a (ih b)
    exact this h2
theorem dpAll_of {K : Fg} {M : Hp} : ∀ {vs : List V} {ds : List PyData}, Paired (tD.rep K M) vs ds → DpAll K M vs ds
  | _, _, .nil => .nil
  | _, _, .cons h t => .cons h (dpAll_of t)
theorem rep_TD {K : Fg} {M : Hp} {v : V} {ds : List PyData} (h : (tTup tD).rep K M v ds) : Dp K M v (.tuple ds) := by
  obtain ⟨a, vs, rfl, h1, h2⟩ := h
  exact .tup h1 (dpAll_of h2)
/-- no name of the module hides a built-in -/
structure Bi (mg : Str → Option Value) : Prop where
  len : mg "len" = none
  int : mg "int" = none
  min : mg "min" = none
  max : mg "max" = none
  range : mg "range" = none
  list : mg "list" = none
  tuple : mg "tuple" = none
  isinstance : mg "isinstance" = none
  str : mg "str" = none
  bool : mg "bool" = none
  sum : mg "sum" = none
  sorted : mg "sorted" = none
  repr : mg "repr" = none
  iter : mg "iter" = none
  enumerate : mg "enumerate" = none
  zip : mg "zip" = none
  reversed : mg "reversed" = none
  any : mg "any" = none
  all : mg "all" = none
  abs : mg "abs" = none
  set : mg "set" = none
  dict : mg "dict" = none
  ve : mg "ValueError" = none
theorem nt {b : Bool} (h : b = false) : ¬ b = true := by rw [h]; decide
theorem ret_is {α : Type} {s : Ty α} {x y : α} {K : Fg} {M : Hp} {v : V} (r : s.rep K M v x) (h : y = x) : s.rep K M v y := by rw [h]; exact r
end TL

namespace TL
open PySem PySem.Spec PyProof.Rows L2
/-! ### lists of lists of the frame's own -/
def cutv (M : Hp) (fp : List Addr) : Hp := fun b => if b ∈ fp then none else M b
theorem unview {M H M' H' : Hp} {fp : List Addr} (hf : ∀ x ∈ fp, M x = none ∧ ∃ vs, H x = some (.lst vs)) (n : Nx (upds M H fp) H M' H') (K : Fg) : Nx M H (cutv M' fp) H' ∧ TupS K M' (cutv M' fp) := by
  refine ⟨⟨n.ex, fun b o e => ?_, fun b o e => ?_, fun b n1 n2 => ?_⟩, fun b xs e => ?_⟩
  · unfold cutv
    by_cases z : b ∈ fp
    · rw [(hf b z).1] at e; cases e
    · rw [if_neg z]
      exact n.vx b o (by unfold upds; rw [if_neg z]; exact e)
  · unfold cutv at e
    by_cases z : b ∈ fp
    · rw [if_pos z] at e; cases e
    · rw [if_neg z] at e; exact n.sub b o e
  · unfold cutv
    by_cases z : b ∈ fp
    · rw [if_pos z]
    · rw [if_neg z]; exact n.fr b (by unfold upds; rw [if_neg z]; exact n1) n2
  · have at' : ∀ b ∈ fp, ∃ vs, M' b = some (.lst vs) := fun b z => by
      obtain ⟨_, vs, hv⟩ := hf b z
      exact ⟨vs, n.vx b _ (by unfold upds; rw [if_pos z]; exact hv)⟩
    rcases e with e | e
    · have z : b ∉ fp := fun z => by
        obtain ⟨vs, hv⟩ := at' b z
        rcases e with e | ⟨o, e⟩
        · rw [hv] at e; cases e
        · rw [hv] at e; cases e
      refine .inl ?_
      rcases e with e | ⟨o, e⟩
      · exact .inl (by unfold cutv; rw [if_neg z]; exact e)
      · exact .inr ⟨o, by unfold cutv; rw [if_neg z]; exact e⟩
    · exact .inr e
/-- a slot is forgotten, whatever its value -/
theorem St.setAny {K : Fg} {M0 H0 M H : Hp} {σ : L2.St} {G : List Sl} (S : St K M0 H0 M H σ G) (i : Nat) (o : Option V) : St K M0 H0 M H (σ.set i o) (G.set i .un) :=
  S.change (fp := []) S.nx (fun h => by cases h) (fun _ _ _ _ _ _ _ _ r => r) trivial
section
variable {α β γ ι ρ : Type} {X : Cx} {G : List Sl} {a b c e : Expr} {es : List Expr} {st : Stmt} {rest th el body : List Stmt} {s : Ty α} {t : Ty β} {u : Ty γ} {x : α} {y : β} {z : γ} {pos : Pos} {i j : Int} {xs ys : List α} {p q : Bool} {R : Out} {k : Nat} {scope : Scope} {own : List (Str × Nat)} {n : Str} {pn : Pos}
theorem e_read2 (m : Nat) {s : Ty α} {xss : List (List α)} (h : G[m]? = some (.o2 s xss)) (hi : Imm X.K t) (he : E X (G.set m (.vl (tLst (tLst s)) xss)) e t y) : E X G e t y := ⟨fun {M0 H0 M H σ} S Q q => by
  obtain ⟨fp, hf, S'⟩ := S.freeze2 h
  refine he.run S' _ fun v M' H' n r => ?_
  obtain ⟨n', ts⟩ := unview (fun x hx => ⟨(hf x hx).1, (hf x hx).2.2⟩) n X.K
  exact q v _ H' n' (hi _ _ _ _ ts r)⟩
theorem t_read2 (m : Nat) {s : Ty α} {xss : List (List α)} {d : Bool} (h : G[m]? = some (.o2 s xss)) (he : T X (G.set m (.vl (tLst (tLst s)) xss)) e d) : T X G e d := ⟨fun {M0 H0 M H σ} S Q q => by
  obtain ⟨fp, hf, S'⟩ := S.freeze2 h
  refine he.run S' _ fun M' H' n => ?_
  obtain ⟨n', ts⟩ := unview (fun x hx => ⟨(hf x hx).1, (hf x hx).2.2⟩) n X.K
  exact q _ H' n'⟩
theorem b_freeze2 (m : Nat) {s : Ty α} {xss : List (List α)} (h : G[m]? = some (.o2 s xss)) (hb : B X (G.set m (.vl (tLst (tLst s)) xss)) rest R) : B X G rest R := ⟨fun D E S tk f => by
  obtain ⟨fp, _, S'⟩ := S.freeze2 h
  exact hb.run D E S' tk f⟩
theorem nodup_set : ∀ {bs : List Addr} (l : Nat) {p : Addr}, bs.Nodup → p ∉ bs → (bs.set l p).Nodup ∧ ∀ x ∈ bs.set l p, x = p ∨ x ∈ bs
  | [], _, _, h, _ => ⟨by simp, fun x hx => by simp at hx⟩
  | b :: bs, 0, p, h, hp => by
    rw [List.set_cons_zero]
    refine ⟨List.nodup_cons.mpr ⟨fun z => hp (by simp [z]), (List.nodup_cons.mp h).2⟩, fun x hx => ?_⟩
    rcases List.mem_cons.mp hx with z | z
    · exact .inl z
    · exact .inr (by simp [z])
  | b :: bs, l + 1, p, h, hp => by
    rw [List.set_cons_succ]
    obtain ⟨h1, h2⟩ := nodup_set (bs := bs) l (List.nodup_cons.mp h).2 (fun z => hp (List.mem_cons_of_mem _ z))
    refine ⟨List.nodup_cons.mpr ⟨fun z => ?_, h1⟩, fun x hx => ?_⟩
    · rcases h2 b z with z | z
      · exact hp (by rw [z]; simp)
      · exact (List.nodup_cons.mp h).1 z
    · rcases List.mem_cons.mp hx with z | z
      · exact .inr (by simp [z])
      · rcases h2 x z with z | z
        · exact .inl z
        · exact .inr (by simp [z])
/-- name[ib] = [..] -/
theorem s_set2 (m : Nat) {n : Str} {p1 : Pos} {ib : Expr} {l : Nat} {xss : List (List α)} {xs : List α} (h0 : G[m]? = some (.o2 s xss)) (he : EL X G e s xs) (hib : E X G ib tI i) (hm : ixN xss.length i = some l) (h : R.nx (G.set m (.o2 s (xss.set l xs)))) (hi : X.N[m]? = some n := by rfl)
    (hv : Vis X.env.scope n := by first | exact Or.inl rfl | exact Or.inr (Or.inl rfl) | exact Or.inr (Or.inr rfl))
    (hd : (n == ("__debug__" : Str)) = false := by decide) (hcd : (n == ("__classdict__" : Str)) = false := by decide) {p2 : Pos}
    (ha : ∀ v, assign (.Subscript (.Name n p1) ib p2) X.env v = (do
      let ov ← holding [v] (eval (.Name n p1) X.env)
      let iv ← holding [v, ov] (eval ib X.env)
      standAt p2
      holding [v, ov, iv] (setItem ov iv v)
      release [v, ov, iv] []) := by intro _; rfl)
    (hs : swapsWithSole [.Subscript (.Name n p1) ib p2] e pos.line X.env = pure false := by rfl) (hw : swappedStores [.Subscript (.Name n p1) ib p2] e X.env = pure none := by rfl)
    (h1 : (assignEach [.Subscript (.Name n p1) ib p2] X.env).map (·.2) = [assign (.Subscript (.Name n p1) ib p2) X.env] := by rfl) :
    S1 X G (.Assign [.Subscript (.Name n p1) ib p2] e pos) R := ⟨fun {M0 H0 M H σ} D E S tk f => by
  refine ⟨_, ps_asg pe_w (pg_sub (pe_var hi hv hd hcd) pe_w set_list ha) hs hw h1, ?_⟩
  refine he.run S _ fun p M1 H1 vs n1 hp mp hh r1 => ?_
  have key : ∀ M2 H2, Nx M1 H1 M2 H2 → ∃ (a : Addr) (bs : List Addr), σ[m]? = some (some (.ref a)) ∧ H2 a = some (.lst (bs.map V.ref)) ∧ bs.length = xss.length ∧ St X.K M0 H0 M2 (upd H2 a (.lst ((bs.set l p).map V.ref))) σ (G.set m (.o2 s (xss.set l xs))) := fun M2 H2 n2 =>
    S.new2 (cs := fun bs => bs.set l p) (yss := xss.set l xs) h0 (n1.trans n2) hp (n2.fr p mp (by rw [hh]; simp)) (n2.ex _ _ hh) (paired_imp (fun _ _ q => s.ext n2.vx q) r1) (fun bs _ nd pb => nodup_set l nd pb) (fun f1 pr => paired_set f1 l pr)
  obtain ⟨a0, bs0, e0, _⟩ := key M1 H1 (Nx.refl n1.sub)
  refine ⟨.ref a0, e0, hib.run (S.next n1) _ fun w M2 H2 n2 r2 => ?_⟩
  obtain ⟨a, bs, e1, hh2, hl, S'⟩ := key M2 H2 n2
  rw [e0] at e1; cases e1
  refine ⟨a0, _, i, l, rfl, r2, hh2, by rw [List.length_map, hl]; exact hm, ?_⟩
  rw [List.map_set] at S'
  exact f.nx S' h⟩
/-- line = name[i]; line[j] = e: an item of an item is exchanged -/
theorem b_alias (m m2 : Nat) {n n2 : Str} {q1 q2 q3 q4 q5 ps1 ps2 : Pos} {ib jb : Expr} {l r : Nat} {i j : Int} {xss : List (List α)} {xs : List α} (h0 : G[m]? = some (.o2 s xss)) (hne : m ≠ m2) (hib : E X G ib tI i) (hl : ixN xss.length i = some l) (hxs : xss[l]? = some xs)
    (he : E X ((G.set m (.vl (tLst (tLst s)) xss)).set m2 (.vl (tLst s) xs)) e s x) (hei : Imm X.K s) (hjb : E X (G.set m2 .un) jb tI j) (hr : ixN xs.length j = some r) (h : B X ((G.set m (.o2 s (xss.set l (xs.set r x)))).set m2 .un) rest R) (hml : (G[m2]?).isSome = true := by rfl)
    (hN : X.N.Nodup) (hi : X.N[m]? = some n := by rfl) (hi2 : X.N[m2]? = some n2 := by rfl) (hx2 : Loc X.env.scope n2 := by first | exact Or.inl rfl | exact Or.inr rfl) (hf2 : X.fn n2 = true ∨ X.env.scope.names.lookup n2 = some .local := by first | exact .inl rfl | exact .inr rfl)
    (hv : Vis X.env.scope n := by first | exact Or.inl rfl | exact Or.inr (Or.inl rfl) | exact Or.inr (Or.inr rfl)) (hv2 : Vis X.env.scope n2 := by first | exact Or.inl rfl | exact Or.inr (Or.inl rfl) | exact Or.inr (Or.inr rfl))
    (hd : (n == ("__debug__" : Str)) = false := by decide) (hcd : (n == ("__classdict__" : Str)) = false := by decide) (hd2 : (n2 == ("__debug__" : Str)) = false := by decide) (hcd2 : (n2 == ("__classdict__" : Str)) = false := by decide)
    (hsl : PlainIx ib := by exact fun _ _ => rfl) (hs1 : swapsWith (.Subscript (.Name n q1) ib q2) (some (.Name n2 q3)) ps1.line X.env = pure false := by rfl)
    (ha : ∀ v, assign (.Subscript (.Name n2 q4) jb q5) X.env v = (do
      let ov ← holding [v] (eval (.Name n2 q4) X.env)
      let iv ← holding [v, ov] (eval jb X.env)
      standAt q5
      holding [v, ov, iv] (setItem ov iv v)
      release [v, ov, iv] []) := by intro _; rfl)
    (hs : swapsWithSole [.Subscript (.Name n2 q4) jb q5] e ps2.line X.env = pure false := by rfl) (hw : swappedStores [.Subscript (.Name n2 q4) jb q5] e X.env = pure none := by rfl)
    (h1 : (assignEach [.Subscript (.Name n2 q4) jb q5] X.env).map (·.2) = [assign (.Subscript (.Name n2 q4) jb q5) X.env] := by rfl) :
    B X G (.Assign [.Name n2 q3] (.Subscript (.Name n q1) ib q2) ps1 :: .Assign [.Subscript (.Name n2 q4) jb q5] e ps2 :: rest) R := ⟨fun {M0 H0 M H σ} D E S tk f => by
  refine ⟨_, pss_cons (ps_set hN hi2 hx2 (pe_ix ix_list (pe_var hi hv hd hcd) pe_w hsl) hs1 hf2) (pss_cons (ps_asg pe_w (pg_sub (pe_var hi2 hv2 hd2 hcd2) pe_w set_list ha) hs hw h1) pss_w), ?_⟩
  obtain ⟨a0, bs0, b0, vs0, e0, _⟩ := S.put2 (ys := xs) h0 hxs
  refine ⟨.ref a0, e0, hib.run S _ fun w M1 H1 n1 r1 => ?_⟩
  obtain ⟨a, bs, b, vs, e1, ha1, hbl, hb1, hb, hbm, pr, _⟩ := (S.next n1).put2 (ys := xs) h0 hxs
  rw [e0] at e1; cases e1
  have hat : atI (bs.map V.ref) i = some (.ref b) := by
    unfold atI
    rw [List.length_map, hbl, hl]
    show (bs.map V.ref)[l]? = _
    rw [List.getElem?_map, hb1]; rfl
  refine ⟨a0, _, i, .ref b, rfl, r1, SqL.of ha1, hat, ?_⟩
  -- e is read while all is frozen
  have S1 := S.next n1
  obtain ⟨fp, hf, Sf⟩ := S1.freeze2 h0
  obtain ⟨vt, evt, ta, tvs, te1, te2, te3⟩ := Sf.get (t := tLst (tLst s)) (x := xss) (i := m) (by rw [List.getElem?_set_self (List.getElem?_eq_some_iff.mp h0).1])
  rw [e0] at evt; cases evt
  cases te1
  have tvs' : tvs = bs.map V.ref := by
    have := Sf.sub _ _ te2
    rw [ha1] at this; injection this with this; injection this with this; exact this.symm
  subst tvs'
  obtain ⟨vb, evb, rb⟩ := paired_get te3 hxs
  rw [List.getElem?_map, hb1] at evb
  cases evb
  refine he.run (Sf.set (s := .vl (tLst s) xs) (i := m2) (v := .ref b) rb) _ fun v M2 H2 n2 r2 => ?_
  obtain ⟨n2', ts⟩ := unview (fun x hx => ⟨(hf x hx).1, (hf x hx).2.2⟩) n2 X.K
  have r2' := hei _ _ _ _ ts r2
  have m2l : m2 < σ.length := by
    rw [S.len]
    exact (List.getElem?_eq_some_iff.mp (Option.isSome_iff_exists.mp hml).choose_spec).1
  have S2 := (S1.next n2').setAny m2 (some (.ref b))
  refine ⟨.ref b, List.getElem?_set_self m2l, hjb.run S2 _ fun w3 M3 H3 n3 r3 => ?_⟩
  obtain ⟨a3, bs3, b3, vs3, e3, ha3, hbl3, hb3, hv3, hm3, pr3, S3⟩ := (S1.next (n2'.trans n3)).put2 (ys := xs.set r x) h0 hxs
  rw [e0] at e3; cases e3
  have ebs : bs = bs3 := by
    have q1 := (n2'.ex.trans n3.ex) _ _ ha1
    rw [ha3] at q1
    injection q1 with q1; injection q1 with q1
    exact (refs_inj q1).symm
  subst ebs
  rw [hb1] at hb3; cases hb3
  have S4 := (S3 (vs3.set r v) (paired_set (s.ext n3.vx r2') r pr3)).setAny m2 (some (.ref b))
  exact ⟨b, vs3, j, r, rfl, r3, hv3, by rw [pr3.length]; exact hr, h.run D E S4 tk f⟩⟩
/-- behind m turns: the list at D holds new lists -/
def LcI2 (K : Fg) (t : Ty β) (M1 H1 : Hp) (D : Addr) (yss : List (List β)) (H : Hp) : Prop := ∃ (M : Hp) (bs : List Addr), Nx M1 H1 M H ∧ M D = none ∧ H D = some (.lst (bs.map V.ref)) ∧ D ∉ bs ∧ bs.Nodup ∧ (∀ x ∈ bs, H1 x = none) ∧ Paired (fun b ys => M b = none ∧ ∃ vs, H b = some (.lst vs) ∧ Paired (t.rep K M) vs ys) bs yss
theorem paired_mem {α β : Type} {F G : α → β → Prop} : ∀ {l₁ : List α} {l₂ : List β}, Paired F l₁ l₂ → (∀ a b, a ∈ l₁ → F a b → G a b) → Paired G l₁ l₂
  | _, _, .nil, _ => .nil
  | _, _, .cons h t, f => .cons (f _ _ (by simp) h) (paired_mem t fun a b ha => f a b (by simp [ha]))
theorem lcI2_turn {X X' : Cx} {G : List Sl} {e : Expr} {t : Ty β} {ys : List β} {M0 H0 M1 H1 H : Hp} {D : Addr} {yss : List (List β)} {σ : L2.St} (hK : X'.K = X.K) (hD : H1 D = none) (hI : LcI2 X.K t M1 H1 D yss H) (hz : yss.length < 1000000)
    (S : ∀ M, Nx M1 H1 M H → St X'.K M0 H0 M H σ G) (he : EL X' G e t ys) : wE X' e σ H fun v H4 => ∃ acc, H4 D = some (.lst acc) ∧ acc.length < sizeLine ∧ LcI2 X.K t M1 H1 D (yss ++ [ys]) (upd H4 D (.lst (acc ++ [v]))) := by
  obtain ⟨M, bs, n, hm, hh, hDb, nd, hf, pr⟩ := hI
  refine he.run (S M n) _ fun p M' H' vs n' hp mp hv r => ?_
  have h4 := n'.ex _ _ hh
  have mD : M' D = none := n'.fr D hm (by rw [hh]; simp)
  have nn := n.trans n'
  have pD : p ≠ D := fun z => by rw [z, hh] at hp; cases hp
  have pb : p ∉ bs := fun z => by
    obtain ⟨k, hk⟩ := List.getElem?_of_mem z
    obtain ⟨_, _, _, us, hu, _⟩ := paired_get' pr hk
    rw [hp] at hu; cases hu
  refine ⟨bs.map V.ref, h4, by rw [List.length_map, pr.length]; exact Nat.lt_of_lt_of_le hz (by decide), M', bs ++ [p], ⟨fun b o q => ?_, nn.vx, fun b o q => ?_, nn.fr⟩, mD, ?_, ?_, ?_, ?_, paired_app ?_ (.cons ⟨mp, vs, by rw [upd_ne pD]; exact hv, by rw [← hK]; exact r⟩ .nil)⟩
  · rw [upd_ne (ne_of_none q hD)]; exact nn.ex b o q
  · rw [upd_ne (ne_of_none q mD)]; exact nn.sub b o q
  · rw [upd_same, List.map_append]; rfl
  · intro z
    rcases List.mem_append.mp z with z | z
    · exact hDb z
    · exact pD (List.mem_singleton.mp z).symm
  · refine List.nodup_append.mpr ⟨nd, by simp, fun x hx y hy z => pb ?_⟩
    rw [← List.mem_singleton.mp hy, ← z]; exact hx
  · intro x hx
    rcases List.mem_append.mp hx with z | z
    · exact hf x z
    · rw [List.mem_singleton.mp z]; exact n.ex.free hp
  · refine paired_mem pr fun b xs hb ⟨q1, us, q2, q3⟩ => ⟨n'.fr b q1 (by rw [q2]; simp), us, ?_, paired_imp (fun _ _ q => t.ext n'.vx q) q3⟩
    rw [upd_ne (fun z => hDb (by rw [← z]; exact hb))]; exact n'.ex _ _ q2
theorem lcI2_start {K : Fg} {t : Ty β} {M1 H1 : Hp} {D : Addr} (m : Same M1 H1) (hD : H1 D = none) : LcI2 K t M1 H1 D [] (upd H1 D (.lst [])) :=
  ⟨M1, [], nx_lay m hD, same_none m hD, upd_same, by simp, by simp, by simp, .nil⟩
/-- name = [new list for x in tuple] -/
theorem s_lc2T {f : α → List β} {xs : List α} {nm : Str} {py pos' : Pos} (k i : Nat) (he : E X G a (tTup s) xs)
    (hel : ∀ (s0 : Shared) (H : Hp) (C : Addr) (cl : List (Str × Addr)) (fp : List Addr) (m : Nat) (x : α), xs[m]? = some x → EL (X.blk s0 H scope (compEnvC scope cl C X.env) fp) ((wipeG G (own.map (·.2))).set i (.vl s x)) e t (f x))
    (ok : BlkOk X.N X.env.scope scope own) (hz : xs.length ≤ 1000000)
    (hg : ∀ (s0 : Shared) (H : Hp) (C : Addr) (cl : List (Str × Addr)) (fp : List Addr), PG (X.blk s0 H scope (compEnvC scope cl C X.env) fp) (.Name n pn) (gName i)) (hnx : R.nx (G.set k (.o2 t (xs.map f)))) (hcm : X.calm = true) (hN : X.N.Nodup) (hio : i ∈ own.map (·.2) := by decide) (hi : X.N[k]? = some nm := by rfl)
    (hy : X.env.scope.names.lookup nm = some .local := by rfl) (hsw : swapsWith (.ListComp e [⟨.Name n pn, a, [], 0⟩] scope pos) (some (.Name nm py)) pos'.line X.env = pure true := by first | exact sw_true rfl rfl rfl (by decide +kernel) | rfl)
    (hs : ∀ x, foldedSetIterable a X.env x = pure x := by intro _; rfl) : S1 X G (.Assign [.Name nm py] (.ListComp e [⟨.Name n pn, a, [], 0⟩] scope pos) pos') R := ⟨fun {M0 H0 M H σ} D0 E S tk ff => by
  refine ⟨_, ps_setLc hcm hN hi hy hsw (pi_tup pe_w) ok hg (fun _ _ _ _ _ => pts_nil) (te := wBlk X scope e) (fun s0 H C cl fp => pe_blk s0 H C cl fp) hs, ?_⟩
  refine he.run S _ fun v M1 H1 n1 r1 => ?_
  obtain ⟨p, vs, e1, e2, e3⟩ := r1
  refine ⟨p, e1, ⟨vs, sqT_ext n1.sub e2⟩, fun D hD => lc_tup (K := X.K) (a := p) (xs := vs) (fun m H' => LcI2 X.K t M1 H1 D ((xs.take m).map f) H') (lcI2_start n1.sub hD) (fun m H' _ ⟨M', _, n', _⟩ => sqT_ext (n'.vx.trans n'.sub) e2) ?_ ?_⟩
  · intro m w H' hm hI
    obtain ⟨x', g1, g2⟩ := paired_get' e3 hm
    refine ⟨wiped hio, fun s0 H2 C cl fp => ?_⟩
    rw [take_snoc g1, List.map_append]
    have hl : ((xs.take m).map f).length < 1000000 := by
      have := (List.getElem?_eq_some_iff.mp g1).1
      rw [List.length_map, List.length_take]; omega
    exact lcI2_turn (X := X) rfl hD hI hl (fun M' n' => St.block (S.next n1) n' _ i g2) (hel s0 H2 C cl fp m x' g1)
  · rintro H' ⟨M', bs, n', mD, hh, hDb, nd, hf, pr⟩
    rw [e3.length, List.take_length] at pr
    exact ff.nx (S.setOwn2 (n1.trans n') (n1.ex.free hD) mD hh (fun x hx => n1.ex.free (hf x hx)) hDb nd pr) hnx⟩
end
end TL

namespace TL
open PySem PySem.Spec PyProof.Rows L2
theorem repsExt {K : Fg} {M M' : Hp} (e : Same M M') : ∀ {vs : List V} {ss : List Sl}, Reps K M vs ss → Reps K M' vs ss
  | _, _, .nil => .nil
  | _, _, .cons (t := t) h r => .cons (t.ext e h) (repsExt e r)
theorem repsApp {K : Fg} {M : Hp} : ∀ {vs ws : List V} {ss ts : List Sl}, Reps K M vs ss → Reps K M ws ts → Reps K M (vs ++ ws) (ss ++ ts)
  | _, _, _, _, .nil, r => r
  | _, _, _, _, .cons h r, q => .cons h (repsApp r q)
theorem paired_nil_r {α β : Type} {F : α → β → Prop} {xs : List α} (h : Paired F xs []) : xs = [] := List.eq_nil_of_length_eq_zero h.length
section
variable {α β γ ι ρ : Type} {X : Cx} {G : List Sl} {a b c e : Expr} {es rest : List Expr} {s : Ty α} {t : Ty β} {u : Ty γ} {x : α} {y : β} {z : γ} {pos : Pos} {k : Nat}
/-- t + u, of any length -/
theorem e_catA {xs ys : List α} (ha : E X G a (tTup s) xs) (hb : E X G b (tTup s) ys) (hz : xs.length + ys.length ≤ 1000000) : E X G (.BinOp a .Add b pos) (tTup s) (xs ++ ys) := e_op2 op_catA ha hb fun M H v w Q m h1 h2 k => by
  obtain ⟨p, vs, e1, e2, e3⟩ := h1
  obtain ⟨q, ws, f1, f2, f3⟩ := h2
  have l1 := e3.length
  have l2 := f3.length
  refine ⟨p, q, vs, ws, e1, f1, sqT_ext m e2, sqT_ext m f2, by rw [l1, l2]; exact Nat.le_trans hz (by decide), fun z => ?_, fun _ z => ?_, fun _ _ r hr => ?_⟩
  · have : xs = [] := by rw [z] at l1; exact List.eq_nil_of_length_eq_zero l1.symm
    rw [this, List.nil_append] at k
    exact k _ M H (Nx.refl m) ⟨q, ws, rfl, f2, f3⟩
  · have : ys = [] := by rw [z] at l2; exact List.eq_nil_of_length_eq_zero l2.symm
    rw [this, List.append_nil] at k
    exact k _ M H (Nx.refl m) ⟨p, vs, rfl, e2, e3⟩
  · exact k _ _ _ (Nx.new m hr) ⟨r, _, rfl, .inl (.inl upd_same), paired_imp (fun _ _ q => s.ext (same_new (same_none m hr)) q) (paired_app e3 f3)⟩
/-! ### keyword-only parameters -/
def wK (X : Cx) (kws : List Keyword) : TA := fun σ H Q => ∃ t, PK X kws t ∧ t σ H Q
theorem pk_w {X : Cx} {kws : List Keyword} : PK X kws (wK X kws) := ⟨fun pos pins s σ H Q I ⟨_, p, h⟩ => p.run pos pins s σ H Q I h⟩
structure EK (X : Cx) (G : List Sl) (es : List Keyword) (ss : List Sl) : Prop where
  run : ∀ {M0 H0 M H : Hp} {σ : L2.St}, St X.K M0 H0 M H σ G → ∀ (Q : List V → Hp → Prop), (∀ vs M' H', Nx M H M' H' → Reps X.K M' vs ss → Q vs H') → wK X es σ H Q
theorem ek_nil : EK X G [] [] := ⟨fun S Q k => ⟨_, pk_nil, k _ _ _ (Nx.refl S.sub) .nil⟩⟩
theorem ek_cons {kws : List Keyword} {ss : List Sl} {nm : Option Str} {kp : Pos} (h : E X G a s x) (hr : EK X G kws ss) : EK X G (⟨nm, a, kp⟩ :: kws) (.vl s x :: ss) := ⟨fun S Q k =>
  ⟨_, pk_cons pe_w pk_w, h.run S _ fun v M1 H1 n1 r1 => hr.run (S.next n1) _ fun vs M2 H2 n2 r2 => k _ M2 H2 (n1.trans n2) (.cons (s.ext n2.vx r1) r2)⟩⟩
/-- a def with keyword-only parameters, as its callers know it -/
structure FnD (P : Program) (w : World) (K : Fg) (mg : Str → Option Value) (base : Heap) (CX : CXT) (k : Nat) (name : Str) (ps : List Str) (n : Nat) (ks : List Str) (dvs : List V) (sp : Sp) : Prop where
  ex : ∃ f fd, mg name = some (.ref f) ∧ PySem.W.keepIn K (.ref f) = true ∧ (∃ ds, Vals dvs ds ∧ Binds K fd ps ds) ∧ KBn K fd ps n ks (fun us ws => us ++ ws) (fun vs zs => vs ++ zs) ∧ FnOk P w K mg base CX k f fd ps sp
theorem e_callD {P : Program} {w : World} {K : Fg} {mg : Str → Option Value} {base : Heap} {n : Str} {ps ks : List Str} {nn : Nat} {dvs : List V} {ar : ι → List Sl} {pre : ι → Prop} {tr : Ty ρ} {out : ι → ρ} {p : Pos} {as ds : List Sl} (C : FnD P w K mg base CX0 k n ps nn ks dvs (spG K ar pre tr out)) (hr : Room k X.A) (i : ι) (ha : EA X G (e :: es) as) (hd : ∀ M, Reps K M dvs ds) (har : ar i = as ++ ds) (hp : pre i)
    (hg : Gl X n := by rfl) (hdb : (n == ("__debug__" : Str)) = false := by decide) (he : starEach (e :: es) X.env = (false, eval e X.env) :: starEach es X.env := by rfl) (hpl : (backTo pos (starEach es X.env)).any (·.1) = false := by rfl)
    (xP : X.prog = P := by rfl) (xw : X.w = w := by rfl) (xK : X.K = K := by rfl) (xm : X.mg = mg := by rfl) (xb : X.base = base := by rfl) : E X G (.Call (.Name n p) (e :: es) [] pos) tr (out i) := ⟨fun S Q q => by
  subst xP xw xK xm xb
  obtain ⟨f, fd, hm, hk, ⟨dz, hv, hb⟩, _, F⟩ := C.ex
  refine ⟨_, pe_call F hr hg hm hk hb hv pass0 pa_w hdb he hpl, ha.run S _ fun vs M1 H1 n1 r1 => ?_⟩
  exact ⟨i, M1, n1.sub, by rw [har]; exact repsApp r1 (hd M1), hp, fun v M2 H2 n2 r2 => q v M2 H2 (n1.trans n2) r2⟩⟩
theorem e_callK {P : Program} {w : World} {K : Fg} {mg : Str → Option Value} {base : Heap} {n : Str} {ps ks : List Str} {nn : Nat} {dvs : List V} {ar : ι → List Sl} {pre : ι → Prop} {tr : Ty ρ} {out : ι → ρ} {p : Pos} {as bs : List Sl} {kws : List Keyword} (C : FnD P w K mg base CX0 k n ps nn ks dvs (spG K ar pre tr out)) (hr : Room k X.A) (i : ι) (ha : EA X G (e :: es) as) (hkw : EK X G kws bs) (har : ar i = as ++ bs) (l1 : as.length = nn) (l2 : bs.length = ks.length) (hp : pre i)
    (hg : Gl X n := by rfl) (hall : (backToKw pos (keywordEach kws X.env)).all (·.1.isSome) = true := by rfl) (hks : (backToKw pos (keywordEach kws X.env)).filterMap (·.1) = ks := by rfl)
    (hdb : (n == ("__debug__" : Str)) = false := by decide) (he : starEach (e :: es) X.env = (false, eval e X.env) :: starEach es X.env := by rfl)
    (hpl : ((backTo pos (starEach (e :: es) X.env)).any (·.1) || (backToKw pos (keywordEach kws X.env)).any (·.1.isNone)) = false := by rfl)
    (xP : X.prog = P := by rfl) (xw : X.w = w := by rfl) (xK : X.K = K := by rfl) (xm : X.mg = mg := by rfl) (xb : X.base = base := by rfl) : E X G (.Call (.Name n p) (e :: es) kws pos) tr (out i) := ⟨fun S Q q => by
  subst xP xw xK xm xb
  obtain ⟨f, fd, hm, hk, _, hb, F⟩ := C.ex
  refine ⟨_, pe_callN F hr hg hm hk hb pass0 pa_w pk_w hall hks hdb he hpl, ha.run S _ fun vs M1 H1 n1 r1 => hkw.run (S.next n1) _ fun zs M2 H2 n2 r2 => ?_⟩
  exact ⟨by rw [reps_len r1, l1], by rw [reps_len r2, l2], i, M2, n2.sub, by rw [har]; exact repsApp (repsExt n2.vx r1) r2, hp, fun v M3 H3 n3 r3 => q v M3 H3 ((n1.trans n2).trans n3) r3⟩⟩
end
/-! ### [e for a, b in xs] -/
theorem wipe_get : ∀ (us : List Nat) (τ : L2.St) (j : Nat), (L2.wipe τ us)[j]? = if j ∈ us then (if j < τ.length then some none else none) else τ[j]? := by
  intro us
  induction us with
  | nil => intro τ j; simp [L2.wipe]
  | cons u us ih =>
    intro τ j
    show ((L2.wipe τ us).set u none)[j]? = _
    by_cases hj : u = j
    · subst hj
      rw [List.getElem?_set]
      simp [wipe_length]
    · rw [List.getElem?_set_ne hj, ih τ j]
      have : (j ∈ u :: us) ↔ j ∈ us := by simp [Ne.symm hj]
      simp [this]
theorem wipe_set {σ : L2.St} {o : Option V} {i : Nat} {vs : List Nat} (hi : i ∈ vs) : L2.wipe (σ.set i o) vs = L2.wipe σ vs := by
  apply List.ext_getElem?
  intro j
  rw [wipe_get, wipe_get]
  by_cases hj : j ∈ vs
  · rw [if_pos hj, if_pos hj, List.length_set]
  · rw [if_neg hj, if_neg hj, List.getElem?_set_ne (fun z => hj (by rw [← z]; exact hi))]
section
variable {α β γ : Type} {X : Cx} {G : List Sl} {a e : Expr} {s : Ty α} {t : Ty β} {u : Ty γ} {scope : Scope} {own : List (Str × Nat)}
theorem lc_L2 {n1 n2 : Str} {q1 q2 q3 : Pos} {kt : Nat} {f : α × β → γ} {zs : List (α × β)} (he : E X G a (tLst (tP2 s t)) zs) (i j : Nat)
    (hel : ∀ (s0 : Shared) (H : Hp) (C : Addr) (cl : List (Str × Addr)) (fp : List Addr) (m : Nat) (x : α) (y : β), zs[m]? = some (x, y) → E (X.blk s0 H scope (compEnvC scope cl C X.env) fp) (((wipeG G (own.map (·.2))).set i (.vl s x)).set j (.vl t y)) e u (f (x, y)))
    (ok : BlkOk X.N X.env.scope scope own) (hz : zs.length ≤ 1000000) (hcm : X.calm = true)
    (hg1 : ∀ (s0 : Shared) (H : Hp) (C : Addr) (cl : List (Str × Addr)) (fp : List Addr), PG (X.blk s0 H scope (compEnvC scope cl C X.env) fp) (.Name n1 q1) (gName i))
    (hg2 : ∀ (s0 : Shared) (H : Hp) (C : Addr) (cl : List (Str × Addr)) (fp : List Addr), PG (X.blk s0 H scope (compEnvC scope cl C X.env) fp) (.Name n2 q2) (gName j)) (hio : i ∈ own.map (·.2) := by decide) (hjo : j ∈ own.map (·.2) := by decide)
    (hs : ∀ x, foldedSetIterable a X.env x = pure x := by intro _; rfl) : LC X G e (.Tuple [.Name n1 q1, .Name n2 q2] kt q3) a [] scope u (zs.map f) := ⟨_, gTup X.K 2 (gCons (gName i) (gCons (gName j) gNil)), _, wBlk X scope e, own, (pi_list pe_w), ok, (fun s0 H C cl fp => pg_tup (X := X.blk s0 H scope (compEnvC scope cl C X.env) fp) hcm (pgs_cons (hg1 s0 H C cl fp) (pgs_cons (hg2 s0 H C cl fp) pgs_nil rfl) rfl) rfl rfl), (fun _ _ _ _ _ => pts_nil), (fun s0 H C cl fp => pe_blk s0 H C cl fp), hs, fun {M0 H0 M H σ} S Q q => by
  refine he.run S _ fun v M1 H1 n1 r1 => ?_
  obtain ⟨p, vs, e1, e2, e3⟩ := r1
  refine ⟨p, e1, ⟨vs, SqL.of (n1.sub _ _ e2)⟩, fun D hD => lc_list (K := X.K) (a := p) (xs := vs) (fun m H' => LcI X.K u M1 H1 D ((zs.take m).map f) H') (lcI_start n1.sub hD) (fun m H' _ ⟨M', _, n', _⟩ => SqL.of (n'.sub _ _ (n'.vx _ _ e2))) ?_ ?_⟩
  · intro m w H' hm hI
    obtain ⟨⟨x', y'⟩, g1, g2⟩ := paired_get' e3 hm
    obtain ⟨pa, v1, v2, f1, f2, f3, f4⟩ := g2
    obtain ⟨M', ws, n', mD, hh, pr⟩ := id hI
    refine ⟨pa, [v1, v2], f1, sqT_ext (n'.vx.trans n'.sub) f2, rfl, v1, [v2], rfl, v2, [], rfl, rfl, ?_⟩
    refine ⟨?_, fun s0 H2 C cl fp => ?_⟩
    · rw [wipe_set hjo, wipe_set hio]
      exact List.ext_getElem? fun l => by
        rw [wipe_get, wipe_get]
        by_cases hl : l ∈ own.map (·.2)
        · rw [if_pos hl, if_pos hl, wipe_length]
        · rw [if_neg hl, if_neg hl]
    · rw [take_snoc g1, List.map_append]
      have hl : ((zs.take m).map f).length < 1000000 := by
        have := (List.getElem?_eq_some_iff.mp g1).1
        rw [List.length_map, List.length_take]; omega
      exact lcI_turn (X := X) rfl hD hI hl (fun M' n' => (St.block (S.next n1) n' _ i f3).set (s := .vl t y') (v := v2) (t.ext n'.vx f4)) (hel s0 H2 C cl fp m x' y' g1)
  · rintro H' ⟨M', ws, n', mD, hh, pr⟩
    rw [e3.length, List.take_length] at pr
    exact q D M' H' ws (n1.trans n') (n1.ex.free hD) mD hh pr⟩
end
end TL


namespace TL
open PySem PySem.Spec PyProof.Rows L2
theorem layInts : ∀ ns : List Int, PyData.canLayAll0 (ns.map PyData.int) = true
  | [] => by rw [List.map_nil, PyData.canLayAll0]
  | n :: ns => by rw [List.map_cons, PyData.canLayAll0, layInts ns, PyData.canLay0]; rfl
theorem depInts : ∀ ns : List Int, PyData.depthAll (ns.map PyData.int) = 0
  | [] => by rw [List.map_nil, PyData.depthAll]
  | n :: ns => by rw [List.map_cons, PyData.depthAll, depInts ns, PyData.depth]; rfl
theorem eqvInts : ∀ ns ms : List Int, PyData.eqvAll (ns.map PyData.int) (ms.map PyData.int) = decide (ns = ms)
  | [], [] => by simp [PyData.eqvAll]
  | [], m :: ms => by simp [PyData.eqvAll]
  | n :: ns, [] => by simp [PyData.eqvAll]
  | n :: ns, m :: ms => by
    rw [List.map_cons, List.map_cons, PyData.eqvAll, eqvInts ns ms]
    by_cases h : n = m <;> simp [PyData.eqv, h]
theorem sh_row (ns : List Int) : SeqAt.shaped (dRow ns) = true := by
  unfold dRow SeqAt.shaped; rw [PyData.canLay0, PyData.depth, layInts, depInts]; rfl
theorem sh_rowL (ns : List Int) : SeqAt.shaped (dRowL ns) = true := by
  unfold dRowL SeqAt.shaped; rw [PyData.canLay0, PyData.depth, layInts, depInts]; rfl
theorem eqv_row (a b : List Int) : PyData.eqv (dRow a) (dRow b) = decide (a = b) := by
  unfold dRow; rw [PyData.eqv, eqvInts]
theorem eqv_rowL (a b : List Int) : PyData.eqv (dRowL a) (dRowL b) = decide (a = b) := by
  unfold dRowL; rw [PyData.eqv, eqvInts]
theorem layRows : ∀ ns : List (List Int), PyData.canLayAll0 (ns.map dRow) = true
  | [] => by rw [List.map_nil, PyData.canLayAll0]
  | n :: ns => by rw [List.map_cons, PyData.canLayAll0, layRows ns]; unfold dRow; rw [PyData.canLay0, layInts]; rfl
theorem layRowsL : ∀ ns : List (List Int), PyData.canLayAll0 (ns.map dRowL) = true
  | [] => by rw [List.map_nil, PyData.canLayAll0]
  | n :: ns => by rw [List.map_cons, PyData.canLayAll0, layRowsL ns]; unfold dRowL; rw [PyData.canLay0, layInts]; rfl
theorem depRows : ∀ ns : List (List Int), PyData.depthAll (ns.map dRow) ≤ 1
  | [] => by rw [List.map_nil, PyData.depthAll]; omega
  | n :: ns => by
    have := depRows ns
    rw [List.map_cons, PyData.depthAll]; unfold dRow; rw [PyData.depth, depInts]; unfold dRow at this; omega
theorem depRowsL : ∀ ns : List (List Int), PyData.depthAll (ns.map dRowL) ≤ 1
  | [] => by rw [List.map_nil, PyData.depthAll]; omega
  | n :: ns => by
    have := depRowsL ns
    rw [List.map_cons, PyData.depthAll]; unfold dRowL; rw [PyData.depth, depInts]; unfold dRowL at this; omega
theorem sh_tab (ns : List (List Int)) : SeqAt.shaped (dTab ns) = true := by
  have := depRows ns
  unfold dTab SeqAt.shaped; rw [PyData.canLay0, PyData.depth, layRows, Bool.true_and]; exact decide_eq_true (by omega)
theorem sh_tabL (ns : List (List Int)) : SeqAt.shaped (dTabL ns) = true := by
  have := depRowsL ns
  unfold dTabL SeqAt.shaped; rw [PyData.canLay0, PyData.depth, layRowsL, Bool.true_and]; exact decide_eq_true (by omega)
theorem eqvRows : ∀ ns ms : List (List Int), PyData.eqvAll (ns.map dRow) (ms.map dRow) = decide (ns = ms)
  | [], [] => by simp [PyData.eqvAll]
  | [], m :: ms => by simp [PyData.eqvAll]
  | n :: ns, [] => by simp [PyData.eqvAll]
  | n :: ns, m :: ms => by
    rw [List.map_cons, List.map_cons, PyData.eqvAll, eqvRows ns ms, eqv_row]
    simp
theorem eqvRowsL : ∀ ns ms : List (List Int), PyData.eqvAll (ns.map dRowL) (ms.map dRowL) = decide (ns = ms)
  | [], [] => by simp [PyData.eqvAll]
  | [], m :: ms => by simp [PyData.eqvAll]
  | n :: ns, [] => by simp [PyData.eqvAll]
  | n :: ns, m :: ms => by
    rw [List.map_cons, List.map_cons, PyData.eqvAll, eqvRowsL ns ms, eqv_rowL]
    simp
theorem eqv_tab (a b : List (List Int)) : PyData.eqv (dTab a) (dTab b) = decide (a = b) := by
  unfold dTab; rw [PyData.eqv, eqvRows]
theorem eqv_tabL (a b : List (List Int)) : PyData.eqv (dTabL a) (dTabL b) = decide (a = b) := by
  unfold dTabL; rw [PyData.eqv, eqvRowsL]
/-! ### tuples of many types -/
inductive CReps (K : Fg) (M : Hp) : List V → List Cl → Prop where
  | nil : CReps K M [] []
  | cons {c : Cl} {v : V} {vs : List V} {cs : List Cl} (h : c.t.rep K M v c.x) (r : CReps K M vs cs) : CReps K M (v :: vs) (c :: cs)
theorem cr_ext {K : Fg} {M M' : Hp} (e : Same M M') : ∀ {vs : List V} {cs : List Cl}, CReps K M vs cs → CReps K M' vs cs
  | _, _, .nil => .nil
  | _, _, .cons (c := c) h r => .cons (c.t.ext e h) (cr_ext e r)
def tTu {α : Type} (fs : α → List Cl) : Ty α := ⟨fun K M v x => ∃ a vs, v = .ref a ∧ SqT K M a vs ∧ CReps K M vs (fs x), fun e ⟨a, vs, h1, h2, h3⟩ => ⟨a, vs, h1, sqT_ext e h2, cr_ext e h3⟩⟩
theorem cr_of {K : Fg} {M : Hp} : ∀ {vs : List V} {cs : List Cl}, Reps K M vs (cs.map fun c => .vl c.t c.x) → CReps K M vs cs
  | _, [], h => by
    cases h; exact .nil
  | _, c :: cs, h => by
    cases h with
    | cons h r => exact .cons h (cr_of r)
theorem cr_len {K : Fg} {M : Hp} : ∀ {vs : List V} {cs : List Cl}, CReps K M vs cs → vs.length = cs.length
  | _, _, .nil => rfl
  | _, _, .cons _ r => by simp [cr_len r]
theorem cr_get {K : Fg} {M : Hp} : ∀ {vs : List V} {cs : List Cl} {i : Nat} {c : Cl}, CReps K M vs cs → cs[i]? = some c → ∃ v, vs[i]? = some v ∧ c.t.rep K M v c.x
  | _, _, _, _, .nil, e => by simp at e
  | _, _, 0, _, .cons h _, e => by simp at e; subst e; exact ⟨_, rfl, h⟩
  | _, _, i + 1, c, .cons _ r, e => by
    obtain ⟨v, q, h⟩ := cr_get (i := i) r (by simpa using e)
    exact ⟨v, by simpa using q, h⟩
section
variable {α β γ ι ρ : Type} {X : Cx} {G : List Sl} {a b c e : Expr} {es rest : List Expr} {s : Ty α} {t : Ty β} {u : Ty γ} {x : α} {y : β} {z : γ} {pos : Pos} {k : Nat}
theorem e_tu {fs : α → List Cl} {n : Nat} {ss : List Sl} (x : α) (h : EA X G es ss) (hs : ss = (fs x).map fun c => .vl c.t c.x := by rfl) (hl : (fs x).length ≤ 1000000 := by first | decide | (simp only [List.length_cons, List.length_nil]; omega) | exact Nat.le_of_ble_eq_true rfl) : E X G (.Tuple es n pos) (tTu fs) x := ⟨fun S Q k =>
  ⟨_, pe_tup pa_w, h.run S _ fun vs M1 H1 n1 r1 => by
    rw [hs] at r1
    have r2 := cr_of r1
    exact ⟨by rw [cr_len r2]; exact Nat.le_trans hl (by decide), fun p hp => k _ _ _ (n1.trans (Nx.new n1.sub hp)) ⟨p, vs, rfl, .inl (.inl upd_same), cr_ext (same_new (same_none n1.sub hp)) r2⟩⟩⟩⟩
theorem e_tuI {fs : α → List Cl} {i : Int} (y : β) (ha : E X G a (tTu fs) x) (hb : E X G b tI i) (h : (fs x)[i.toNat]? = some ⟨t, y⟩ := by rfl) (h0 : 0 ≤ i := by decide) (hs : PlainIx b := by exact fun _ _ => rfl) : E X G (.Subscript a b pos) t y := ⟨fun S Q k =>
  ⟨_, pe_ix ix_tup pe_w pe_w hs, ha.run S _ fun v M1 H1 n1 r1 => hb.run (S.next n1) _ fun w' M2 H2 n2 r2 => by
    obtain ⟨p, vs, e1, e2, e3⟩ := r1
    obtain ⟨v, q1, q2⟩ := cr_get e3 h
    have hl := (List.getElem?_eq_some_iff.mp q1).1
    refine ⟨p, _, i, v, e1, r2, sqT_ext (n2.vx.trans n2.sub) e2, ?_, k v M2 H2 (n1.trans n2) (t.ext n2.vx q2)⟩
    show (ixN vs.length i).bind (fun j => vs[j]?) = some v
    unfold ixN
    rw [if_pos h0, if_pos (by omega)]
    exact q1⟩⟩
/-! ### C(..), packed -/
structure Mkr (P : Program) (w : World) (K : Fg) (mg : Str → Option Value) (base : Heap) (k : Nat) (n : Str) (C : Addr) (ps : List Str) (sp : Sp) : Prop where
  ex : ∃ f fd, Mk K C f ∧ FnOk P w K mg base CX0 k f fd ps sp ∧ mg n = some (.ref C) ∧ Binds K fd ps []
theorem e_mk {P : Program} {w : World} {K : Fg} {mg : Str → Option Value} {base : Heap} {n : Str} {C : Addr} {ps : List Str} {ar : ι → List Sl} {pre : ι → Prop} {fs : ι → List (Str × Cl)} {p : Pos} (M : Mkr P w K mg base k n C ps (spI K C ar pre fs)) (hr : Room (k + 1) X.A) (i : ι) (ha : EA X G (e :: es) (ar i)) (hp : pre i)
    (hg : Gl X n := by rfl) (hdb : (n == ("__debug__" : Str)) = false := by decide) (he : starEach (e :: es) X.env = (false, eval e X.env) :: starEach es X.env := by rfl) (hpl : (backTo pos (starEach es X.env)).any (·.1) = false := by rfl)
    (xP : X.prog = P := by rfl) (xw : X.w = w := by rfl) (xK : X.K = K := by rfl) (xm : X.mg = mg := by rfl) (xb : X.base = base := by rfl) : E X G (.Call (.Name n p) (e :: es) [] pos) (tOb C fs) i := by
  obtain ⟨f, fd, h1, h2, h3, h4⟩ := M.ex
  exact e_make h1 h2 hr h3 h4 i ha hp hg hdb he hpl xP xw xK xm xb
end
end TL

namespace TL
open PySem PySem.Spec PyProof.Rows L2
/-! ### the end: what the top has left -/
section
variable {P : Program} {w : World} {K : Fg} {mg : Str → Option Value} {base h : Heap} {f D : Addr} {fd : FuncData} {x qual : Str} {st : Stmt}
theorem fn_in {k : Nat} {n : Str} {ps : List Str} {sp : Sp} (X : K.In h) (G : h.Ns mainGlobals mg) (a : PySem.W.nsIn K mainGlobals n = some (some (.ref f))) (F : Fun K x qual st f fd) (b : Binds K fd ps []) (ok : FnOk P w K mg base CX0 k f fd ps sp) : Fn P w K mg base CX0 k n ps sp :=
  ⟨f, fd, PySem.W.mg_of X G a, F.kp, b, ok⟩
/-- a def with one keyword-only parameter nm, default j -/
theorem funD_mk {nm : Str} {j : Int} {t : Tok} {oc : Value} {od an : Option Addr} {osl : Array (Option Value)} {doc pm cdv ct : Value} (l : K.lookup f = some ⟨oc, od, .func (PySem.W.fnOf x qual (defArgs st) (defBody st) (defScope st) .none (.ref D) doc pm an cdv ct), osl⟩)
    (c : PySem.W.codeIn K cdv qual = true) (k : PySem.W.keepIn K (.ref f) = true) (q : PySem.W.nsIn K D nm = some (some (.int j t))) : FunD K x qual (defArgs st) (defBody st) (defScope st) [] [(nm, .int j)] f (PySem.W.fnOf x qual (defArgs st) (defBody st) (defScope st) .none (.ref D) doc pm an cdv ct) :=
  ⟨⟨oc, od, .none, .ref D, doc, pm, an, cdv, ct, osl, rfl, l, c, .inl ⟨rfl, rfl⟩, .inr ⟨D, rfl, fun p hp => by
    rw [List.mem_singleton.mp hp]
    exact ⟨.int j t, q, t, rfl⟩⟩⟩, k⟩
theorem fnD_in {k n : Nat} {m nm : Str} {j : Int} {ps : List Str} {sp : Sp} (X : K.In h) (G : h.Ns mainGlobals mg) (a : PySem.W.nsIn K mainGlobals m = some (some (.ref f))) (F : FunD K x qual (defArgs st) (defBody st) (defScope st) [] [(nm, .int j)] f fd)
    (hn : n + 1 = ps.length)
    (h0 : ∀ (D : Addr) (doc pm : Value) (an : Option Addr) (cdv ct : Value) (us ks : List Value), us.length = n → ks.length = 1 → KwChain D ([nm].zip ks) (bindArgs (PySem.W.fnOf x qual (defArgs st) (defBody st) (defScope st) .none (.ref D) doc pm an cdv ct) ⟨us, []⟩) (ps.zip (us ++ ks)))
    (h1 : ∀ (kV doc pm : Value) (an : Option Addr) (cdv ct : Value) (us ws : List Value), us.length = n → ws.length = 1 → bindArgs (PySem.W.fnOf x qual (defArgs st) (defBody st) (defScope st) .none kV doc pm an cdv ct) ⟨us, [nm].zip ws⟩ = pure (ps.zip (us ++ ws)))
    (ok : FnOk P w K mg base CX0 k f fd ps sp) : FnD P w K mg base CX0 k m ps n [nm] [.int j] sp := by
  refine ⟨f, fd, PySem.W.mg_of X G a, F.kp, F.binds0 n (by simp) (by simpa using hn) h0, ⟨fun s us ws _ l1 l2 => ?_, fun r1 r2 => r1.append r2⟩, ok⟩
  obtain ⟨oc, od, dV, kV, doc, pm, an, cdv, ct, osl, rfl, lk, hcd, hD, hK⟩ := F.ex
  rcases hD with ⟨_, rfl⟩ | ⟨e, _⟩
  · exact .of_eq (h1 kV doc pm an cdv ct us ws l1 l2)
  · exact absurd rfl e
end
theorem pair_ints {K : Fg} {M : Hp} : ∀ ns : List Int, Paired (tI.rep K M) (ns.map V.int) ns
  | [] => .nil
  | n :: ns => .cons rfl (pair_ints ns)
theorem law_sp {K : Fg} {H : Hp} {a : Addr} {ns : List Int} (hl : ns.length ≤ 63) (hS : SqL K H a (ns.map V.int)) : spG K (fun i : List Int => [.vl (tSq tI) i]) (fun i => i.length ≤ 63) tB (fun _ => true) [.ref a] H (fun v _ => v = .bl true) (fun _ _ _ => False) :=
  ⟨ns, H, Same.refl H, .cons ⟨a, ns.map V.int, rfl, hS, pair_ints ns⟩ .nil, hl, fun v M' H' n r => r⟩
end TL

namespace Ea
open PySem L2 TL
def top (i : Nat) : Stmt := PySem.Challenge.pw_endsalike_k02_front_counts.main.body.getD i (.Pass ⟨0, 0, 0, 0⟩)
abbrev sfrozen : Stmt := top 1
abbrev sis_whole : Stmt := top 2
abbrev scEndsError : Stmt := top 4
abbrev scBadBook : Stmt := top 5
abbrev sBadBook__init__ : Stmt := inClass (top 5) 0
abbrev scontinued : Stmt := top 7
abbrev sfront : Stmt := top 8
abbrev snext_counts : Stmt := top 9
abbrev scount_front : Stmt := top 10
abbrev sis_target : Stmt := top 12
abbrev smoved_kinds : Stmt := top 13
abbrev scBook : Stmt := top 14
abbrev sBook__init__ : Stmt := inClass (top 14) 0
abbrev sBook__eq__ : Stmt := inClass (top 14) 1
abbrev sBook__len__ : Stmt := inClass (top 14) 2
abbrev sBook__iter__ : Stmt := inClass (top 14) 3
abbrev sBook__add__ : Stmt := inClass (top 14) 4
abbrev s_law_whole : Stmt := top 16
abbrev s_law_cell : Stmt := top 17
abbrev s_law_digits : Stmt := top 18
abbrev s_law_book_sizes : Stmt := top 19
abbrev s_law_target : Stmt := top 20
abbrev s_law_book : Stmt := top 21
abbrev s_law_broad : Stmt := top 22
abbrev s_law_lively : Stmt := top 23
abbrev s_law_changed : Stmt := top 24
abbrev s_law_numbers : Stmt := top 25
abbrev s_law_is_small : Stmt := top 26
abbrev s_law_same_row : Stmt := top 27
abbrev s_law_stayed : Stmt := top 28
abbrev s_law_agree : Stmt := top 29
abbrev slaw : Stmt := top 30
def targetM (digit : Int) (k : Int) (many : Int) (j : Int) : Int :=
  let rest := (digit % (many + 3))
  let way := ((digit / (many + 3)) % 8)
  if (decide (way = 0)) = true then (rest - 3) else
  if (decide (5 < way)) = true then (k + (rest % (many - k))) else
  if ((decide (j = 0)) && ((decide (way < 4)) && ((decide (0 < k)) || (decide ((rest % 2) = 0))))) = true then k else
  if (decide (j = 0)) = true then (if (k + 1) < (many - 1) then (k + 1) else (many - 1)) else
  if (decide (way = 5)) = true then k else
  if ((decide (way = 1)) && (decide (rest < 3))) = true then (ix [(-2), (-1), (-3)] rest) else
  if (decide (k < (many - 1))) = true then ((k + 1) + (rest % ((many - k) - 1))) else
  (ix [k, (-2), k, (-1), (-2)] (rest % 5))
def sp_law_target (K : Fg) : Sp := spG K (fun i : Int × Int × Int × Int => [.vl tI i.1, .vl tI i.2.1, .vl tI i.2.2.1, .vl tI i.2.2.2]) (fun i => 0 ≤ i.2.1 ∧ i.2.1 < i.2.2.1 ∧ i.2.2.1 ≤ 1000) tI (fun i => targetM i.1 i.2.1 i.2.2.1 i.2.2.2)
theorem target_good (digit k many j : Int) (h0 : 0 ≤ k) (h1 : k < many) : -3 ≤ targetM digit k many j ∧ targetM digit k many j < many := by
  have a1 := Int.emod_nonneg digit (show many + 3 ≠ 0 by omega)
  have a2 := Int.emod_lt_of_pos digit (show 0 < many + 3 by omega)
  unfold targetM
  simp only
  generalize digit % (many + 3) = rest at a1 a2
  generalize digit / (many + 3) % 8 = way
  split
  · omega
  split
  · have b1 := Int.emod_nonneg rest (show many - k ≠ 0 by omega)
    have b2 := Int.emod_lt_of_pos rest (show 0 < many - k by omega)
    omega
  split
  · omega
  split
  · split <;> omega
  split
  · omega
  split
  · rename_i h
    simp only [Bool.and_eq_true, decide_eq_true_eq] at h
    have hm := ix_mem (xs := [(-2 : Int), -1, -3]) a1 (by simp; omega)
    simp only [List.mem_cons, List.not_mem_nil, or_false] at hm
    omega
  split
  · rename_i h
    simp only [decide_eq_true_eq] at h
    have b1 := Int.emod_nonneg rest (show many - k - 1 ≠ 0 by omega)
    have b2 := Int.emod_lt_of_pos rest (show 0 < many - k - 1 by omega)
    omega
  · have hm := ix_mem (xs := [k, (-2 : Int), k, -1, -2]) (i := rest % 5) (by omega) (by simp; omega)
    simp only [List.mem_cons, List.not_mem_nil, or_false] at hm
    omega
section
variable {P : Program} {w : World} {K : Fg} {mg : Str → Option Value} {base : Heap}
theorem sc_law_target : FnScope ["digit", "k", "many", "j", "rest", "way"] ["digit", "k", "many", "j"] (defScope s_law_target) := ⟨rfl, rfl, rfl, by decide +kernel, rfl, by decide +kernel, by decide +kernel⟩
theorem ok_law_target {f : Addr} {fd : FuncData} (F : Fun K "_law_target" "_law_target" s_law_target f fd) (b : Bi mg)  : FnOk P w K mg base CX0 1 f fd ["digit", "k", "many", "j"] (sp_law_target K) := by
  refine fn_ok F sc_law_target 2 rfl (fun _ => rfl) (fun cdv A outer s H E hr ⟨digit, k, many, j⟩ hp => ?_)
  dsimp only at hp ⊢
  have a1 := Int.emod_nonneg digit (show many + 3 ≠ 0 by omega)
  have a2 := Int.emod_lt_of_pos digit (show 0 < many + 3 by omega)
  refine b_cons (s_set 4 (e_mod (e_intI b.int (e_var 0)) (e_add (e_var 2) e_int) (by first | decide | omega)) ?_ sc_law_target.nd)
  refine b_cons (s_set 5 (e_mod (e_div (e_intI b.int (e_var 0)) (e_add (e_var 2) e_int) (by first | decide | omega)) e_int (by first | decide | omega)) ?_ sc_law_target.nd)
  refine b_cons (s_if (t_cv (e_var 5) e_int cv_eqI) (fun h1 => ?_) (fun h1 => ?_))
  · have h1p := h1; try simp only [Bool.and_eq_true, Bool.or_eq_true, Bool.and_eq_false_iff, Bool.or_eq_false_iff, Bool.not_eq_true', Bool.not_eq_false', decide_eq_true_eq, decide_eq_false_iff_not] at h1p
    refine b_cons (s_ret (e_sub (e_var 4) e_int) (fun M v r => ?_))
    exact ret_is r (by unfold targetM; dsimp only; rw [if_pos h1])
  · have h1p := h1; try simp only [Bool.and_eq_true, Bool.or_eq_true, Bool.and_eq_false_iff, Bool.or_eq_false_iff, Bool.not_eq_true', Bool.not_eq_false', decide_eq_true_eq, decide_eq_false_iff_not] at h1p
    refine b_nil ?_
    refine b_cons (s_if (t_cv (e_var 5) e_int cv_gt) (fun h2 => ?_) (fun h2 => ?_))
    · have h2p := h2; try simp only [Bool.and_eq_true, Bool.or_eq_true, Bool.and_eq_false_iff, Bool.or_eq_false_iff, Bool.not_eq_true', Bool.not_eq_false', decide_eq_true_eq, decide_eq_false_iff_not] at h2p
      refine b_cons (s_ret (e_add (e_var 1) (e_mod (e_intI b.int (e_var 4)) (e_sub (e_var 2) (e_var 1)) (by first | decide | omega))) (fun M v r => ?_))
      exact ret_is r (by unfold targetM; dsimp only; rw [if_neg (nt h1), if_pos h2])
    · have h2p := h2; try simp only [Bool.and_eq_true, Bool.or_eq_true, Bool.and_eq_false_iff, Bool.or_eq_false_iff, Bool.not_eq_true', Bool.not_eq_false', decide_eq_true_eq, decide_eq_false_iff_not] at h2p
      refine b_nil ?_
      refine b_cons (s_if (TW.toT (w_and (t_cv (e_var 3) e_int cv_eqI) (fun h => (w_and (t_cv (e_var 5) e_int cv_lt) (fun h => (w_and1 (TW.toT (w_or (t_cv (e_var 1) e_int cv_gt) (fun h => (w_or1 (t_cv (e_mod (e_intI b.int (e_var 4)) e_int (by first | decide | omega)) e_int cv_eqI))))))))))) (fun h3 => ?_) (fun h3 => ?_))
      · have h3p := h3; try simp only [Bool.and_eq_true, Bool.or_eq_true, Bool.and_eq_false_iff, Bool.or_eq_false_iff, Bool.not_eq_true', Bool.not_eq_false', decide_eq_true_eq, decide_eq_false_iff_not] at h3p
        refine b_cons (s_ret (e_var 1) (fun M v r => ?_))
        exact ret_is r (by unfold targetM; dsimp only; rw [if_neg (nt h1), if_neg (nt h2), if_pos h3])
      · have h3p := h3; try simp only [Bool.and_eq_true, Bool.or_eq_true, Bool.and_eq_false_iff, Bool.or_eq_false_iff, Bool.not_eq_true', Bool.not_eq_false', decide_eq_true_eq, decide_eq_false_iff_not] at h3p
        refine b_nil ?_
        refine b_cons (s_if (t_cv (e_var 3) e_int cv_eqI) (fun h4 => ?_) (fun h4 => ?_))
        · have h4p := h4; try simp only [Bool.and_eq_true, Bool.or_eq_true, Bool.and_eq_false_iff, Bool.or_eq_false_iff, Bool.not_eq_true', Bool.not_eq_false', decide_eq_true_eq, decide_eq_false_iff_not] at h4p
          refine b_cons (s_ret (e_min rfl b.min (e_sub (e_var 2) e_int) (e_add (e_var 1) e_int)) (fun M v r => ?_))
          exact ret_is r (by unfold targetM; dsimp only; rw [if_neg (nt h1), if_neg (nt h2), if_neg (nt h3), if_pos h4])
        · have h4p := h4; try simp only [Bool.and_eq_true, Bool.or_eq_true, Bool.and_eq_false_iff, Bool.or_eq_false_iff, Bool.not_eq_true', Bool.not_eq_false', decide_eq_true_eq, decide_eq_false_iff_not] at h4p
          refine b_nil ?_
          refine b_cons (s_if (t_cv (e_var 5) e_int cv_eqI) (fun h5 => ?_) (fun h5 => ?_))
          · have h5p := h5; try simp only [Bool.and_eq_true, Bool.or_eq_true, Bool.and_eq_false_iff, Bool.or_eq_false_iff, Bool.not_eq_true', Bool.not_eq_false', decide_eq_true_eq, decide_eq_false_iff_not] at h5p
            refine b_cons (s_ret (e_var 1) (fun M v r => ?_))
            exact ret_is r (by unfold targetM; dsimp only; rw [if_neg (nt h1), if_neg (nt h2), if_neg (nt h3), if_neg (nt h4), if_pos h5])
          · have h5p := h5; try simp only [Bool.and_eq_true, Bool.or_eq_true, Bool.and_eq_false_iff, Bool.or_eq_false_iff, Bool.not_eq_true', Bool.not_eq_false', decide_eq_true_eq, decide_eq_false_iff_not] at h5p
            refine b_nil ?_
            refine b_cons (s_if (TW.toT (w_and (t_cv (e_var 5) e_int cv_eqI) (fun h => (w_and1 (t_cv (e_var 4) e_int cv_lt))))) (fun h6 => ?_) (fun h6 => ?_))
            · have h6p := h6; try simp only [Bool.and_eq_true, Bool.or_eq_true, Bool.and_eq_false_iff, Bool.or_eq_false_iff, Bool.not_eq_true', Bool.not_eq_false', decide_eq_true_eq, decide_eq_false_iff_not] at h6p
              refine b_cons (s_ret (e_ixL (EL.toE (el_lst (eh_cons (e_neg e_int) (eh_cons (e_neg e_int) (eh_cons (e_neg e_int) eh_nil))))) (e_var 4) (atI_ix (by first | decide | omega | (simp only [List.length_cons, List.length_nil]; omega)) (by first | decide | omega | (simp only [List.length_cons, List.length_nil]; omega)))) (fun M v r => ?_))
              exact ret_is r (by unfold targetM; dsimp only; rw [if_neg (nt h1), if_neg (nt h2), if_neg (nt h3), if_neg (nt h4), if_neg (nt h5), if_pos h6])
            · have h6p := h6; try simp only [Bool.and_eq_true, Bool.or_eq_true, Bool.and_eq_false_iff, Bool.or_eq_false_iff, Bool.not_eq_true', Bool.not_eq_false', decide_eq_true_eq, decide_eq_false_iff_not] at h6p
              refine b_nil ?_
              refine b_cons (s_if (t_cv (e_var 1) (e_sub (e_var 2) e_int) cv_lt) (fun h7 => ?_) (fun h7 => ?_))
              · have h7p := h7; try simp only [Bool.and_eq_true, Bool.or_eq_true, Bool.and_eq_false_iff, Bool.or_eq_false_iff, Bool.not_eq_true', Bool.not_eq_false', decide_eq_true_eq, decide_eq_false_iff_not] at h7p
                refine b_cons (s_ret (e_add (e_add (e_var 1) e_int) (e_mod (e_intI b.int (e_var 4)) (e_sub (e_sub (e_var 2) (e_var 1)) e_int) (by first | decide | omega))) (fun M v r => ?_))
                exact ret_is r (by unfold targetM; dsimp only; rw [if_neg (nt h1), if_neg (nt h2), if_neg (nt h3), if_neg (nt h4), if_neg (nt h5), if_neg (nt h6), if_pos h7])
              · have h7p := h7; try simp only [Bool.and_eq_true, Bool.or_eq_true, Bool.and_eq_false_iff, Bool.or_eq_false_iff, Bool.not_eq_true', Bool.not_eq_false', decide_eq_true_eq, decide_eq_false_iff_not] at h7p
                refine b_nil ?_
                refine b_cons (s_ret (e_ixL (EL.toE (el_lst (eh_cons (e_var 1) (eh_cons (e_neg e_int) (eh_cons (e_var 1) (eh_cons (e_neg e_int) (eh_cons (e_neg e_int) eh_nil))))))) (e_mod (e_intI b.int (e_var 4)) e_int (by first | decide | omega)) (atI_ix (by first | decide | omega | (simp only [List.length_cons, List.length_nil]; omega)) (by first | decide | omega | (simp only [List.length_cons, List.length_nil]; omega)))) (fun M v r => ?_))
                exact ret_is r (by unfold targetM; dsimp only; rw [if_neg (nt h1), if_neg (nt h2), if_neg (nt h3), if_neg (nt h4), if_neg (nt h5), if_neg (nt h6), if_neg (nt h7)])
end

/-! _law_digits -/
structure DigS where
  row : List Int
  seed : Int
  rest : Int
  k : Int
def digStep (z : DigS) (s : Int) : DigS :=
  let seed := (z.seed * 48271 + 974711 * z.k + 12345) % 2147483647
  let twice := seed * (seed / 65537 + 3) % 2147483629
  if z.rest > 0 then ⟨z.row ++ [z.rest % s], seed, z.rest / s, z.k + 1⟩ else ⟨z.row ++ [twice / 19 % s], seed, z.rest, z.k + 1⟩
def digInit (cell : Int) : DigS := ⟨[], cell % 2147483629, if cell - 10 ^ 18 > 0 then cell - 10 ^ 18 else 0, 0⟩
def digRun (cell : Int) (sizes : List Int) : DigS := sizes.foldl digStep (digInit cell)
def digitsM (cell : Int) (sizes : List Int) : List Int := (digRun cell sizes).row
theorem digRun_snoc (cell : Int) (sizes : List Int) (s : Int) : digRun cell (sizes ++ [s]) = digStep (digRun cell sizes) s := by
  unfold digRun; rw [List.foldl_append]; rfl
theorem dig_inv (cell : Int) (sizes : List Int) : 0 ≤ (digRun cell sizes).seed ∧ (digRun cell sizes).seed < 2147483647 ∧ (digRun cell sizes).k = sizes.length ∧ (digRun cell sizes).row.length = sizes.length := by
  suffices h : ∀ (n : Nat) (sizes : List Int), sizes.length = n → 0 ≤ (digRun cell sizes).seed ∧ (digRun cell sizes).seed < 2147483647 ∧ (digRun cell sizes).k = sizes.length ∧ (digRun cell sizes).row.length = sizes.length from h _ sizes rfl
  intro n
  induction n with
  | zero =>
    intro sizes h
    have : sizes = [] := List.eq_nil_of_length_eq_zero h
    subst this
    refine ⟨?_, ?_, rfl, rfl⟩
    · show 0 ≤ cell % 2147483629; omega
    · show cell % 2147483629 < 2147483647; omega
  | succ n ih =>
    intro sizes h
    rcases List.eq_nil_or_concat sizes with e | ⟨l, s, e⟩
    · subst e; simp at h
    · rw [List.concat_eq_append] at e
      subst e
      have hl : l.length = n := by simp at h; exact h
      obtain ⟨h1, h2, h3, h4⟩ := ih l hl
      rw [digRun_snoc]
      unfold digStep
      simp only
      split <;> (refine ⟨?_, ?_, ?_, ?_⟩ <;> first | (show _ ≤ (_ % _ : Int); omega) | (show (_ % _ : Int) < _; omega) | simp [h3, h4])
theorem dig_good (cell : Int) : ∀ (sizes : List Int), (∀ s ∈ sizes, 0 < s) → Paired (fun d s : Int => 0 ≤ d ∧ d < s) (digitsM cell sizes) sizes := by
  intro sizes
  suffices h : ∀ (n : Nat) (sizes : List Int), sizes.length = n → (∀ s ∈ sizes, 0 < s) → Paired (fun d s : Int => 0 ≤ d ∧ d < s) (digitsM cell sizes) sizes from h _ sizes rfl
  intro n
  induction n with
  | zero =>
    intro sizes h _
    have : sizes = [] := List.eq_nil_of_length_eq_zero h
    subst this
    exact .nil
  | succ n ih =>
    intro sizes h hp
    rcases List.eq_nil_or_concat sizes with e | ⟨l, s, e⟩
    · subst e; simp at h
    · rw [List.concat_eq_append] at e
      subst e
      have hl : l.length = n := by simp at h; exact h
      have ih' := ih l hl (fun x hx => hp x (by simp [hx]))
      have hs : 0 < s := hp s (by simp)
      unfold digitsM at ih' ⊢
      rw [digRun_snoc]
      unfold digStep
      simp only
      split
      · exact paired_app ih' (.cons ⟨Int.emod_nonneg _ (by omega), Int.emod_lt_of_pos _ hs⟩ .nil)
      · exact paired_app ih' (.cons ⟨Int.emod_nonneg _ (by omega), Int.emod_lt_of_pos _ hs⟩ .nil)
theorem digits_len (cell : Int) (sizes : List Int) : (digitsM cell sizes).length = sizes.length := (dig_inv cell sizes).2.2.2
def sp_law_digits (K : Fg) : Sp := spG K (fun i : Int × List Int => [.vl tI i.1, .vl (tLst tI) i.2]) (fun i => i.2.length ≤ 3000 ∧ ∀ s ∈ i.2, 0 < s ∧ s < 1073741824) (tLst tI) (fun i => digitsM i.1 i.2)
section
variable {P : Program} {w : World} {K : Fg} {mg : Str → Option Value} {base : Heap}
theorem sc_law_digits : FnScope ["cell", "sizes", "row", "seed", "rest", "k", "twice"] ["cell", "sizes"] (defScope s_law_digits) := ⟨rfl, rfl, rfl, by decide +kernel, rfl, by decide +kernel, by decide +kernel⟩
theorem ok_law_digits {f : Addr} {fd : FuncData} (F : Fun K "_law_digits" "_law_digits" s_law_digits f fd) (b : Bi mg)  : FnOk P w K mg base CX0 1 f fd ["cell", "sizes"] (sp_law_digits K) := by
  refine fn_ok F sc_law_digits 5 rfl (fun _ => rfl) (fun cdv A outer s H E hr ⟨cell, sizes⟩ hp => ?_)
  dsimp only at hp ⊢
  obtain ⟨hz, hs⟩ := hp
  refine b_cons (s_own 2 (el_lst (s := tI) eh_nil) ?_ sc_law_digits.nd)
  refine b_cons (s_set 3 (e_mod (e_intI b.int (e_var 0)) e_int (by first | decide | omega)) ?_ sc_law_digits.nd)
  refine b_cons (s_set 4 (e_max rfl b.max e_int (e_sub (e_intI b.int (e_var 0)) (e_pow e_int e_int (by decide)))) ?_ sc_law_digits.nd)
  refine b_cons (s_forR 5 (fun m G' => G' = [.vl tI cell, .vl (tLst tI) sizes, .ow tI (digRun cell (sizes.take m)).row, .vl tI (digRun cell (sizes.take m)).seed, .vl tI (digRun cell (sizes.take m)).rest, .un, .un]) _ b.range (e_lenL b.len (e_var 1)) (by first | decide | omega) (Sub.refl _) rfl ?_ ?_ sc_law_digits.nd rfl)
  · rintro m _ hm rfl
    obtain ⟨x, hx, hax⟩ := atI_pos (xs := sizes) (i := (m : Int)) (by omega) hm
    rw [Int.toNat_natCast] at hx
    obtain ⟨hx0, hx1⟩ := hs x (List.mem_of_getElem? hx)
    obtain ⟨i1, i2, i3, i4⟩ := dig_inv cell (sizes.take m)
    have hl : (sizes.take m).length = m := by rw [List.length_take]; omega
    rw [hl] at i3 i4
    have st := digRun_snoc cell (sizes.take m) x
    rw [← take_snoc hx] at st
    refine b_cons (s_set 3 (e_mod (e_intI b.int (e_add (e_add (e_mulR (e_var 3) e_int (by decide)) (e_mulL e_int (e_var 5) (by decide))) e_int)) e_int (by first | decide | omega)) ?_ sc_law_digits.nd)
    refine b_cons (s_set 6 (e_mod (e_intI b.int (e_mulL (e_var 3) (e_add (e_div (e_var 3) e_int (by first | decide | omega)) e_int) (by first | decide | omega))) e_int (by first | decide | omega)) ?_ sc_law_digits.nd)
    refine b_cut (fun G' => Sub G' [.vl tI cell, .vl (tLst tI) sizes, .ow tI (digRun cell (sizes.take (m + 1))).row, .vl tI (digRun cell (sizes.take (m + 1))).seed, .vl tI (digRun cell (sizes.take (m + 1))).rest, .un, .un]) (s_if (t_cv (e_var 4) e_int cv_gt) (fun h => ?_) (fun h => ?_)) ?_
    · have h := of_decide_eq_true h
      refine b_cons (s_app 2 rfl (e_mod (e_intI b.int (e_var 4)) (e_ixL (e_var 1) (e_var 5) hax) hx0) (by omega) ?_)
      refine b_cons (s_set 4 (e_div (e_intI b.int (e_var 4)) (e_ixL (e_var 1) (e_var 5) hax) ⟨hx0, hx1⟩) ?_ sc_law_digits.nd)
      refine b_nil ?_
      rw [st]; unfold digStep; simp only [if_pos (show (digRun cell (sizes.take m)).rest > 0 from h), i3]
      exact .same (.same (.same (.same (.same (.un (.un .nil))))))
    · have h := of_decide_eq_false h
      refine b_cons (s_app 2 rfl (e_mod (e_div (e_var 6) e_int (by first | decide | omega)) (e_ixL (e_var 1) (e_var 5) hax) hx0) (by omega) ?_)
      refine b_nil ?_
      rw [st]; unfold digStep; simp only [if_neg (show ¬ (digRun cell (sizes.take m)).rest > 0 from h), i3]
      exact .same (.same (.same (.same (.same (.un (.un .nil))))))
    intro G' hG
    exact B.weak (b_nil rfl) hG
  · rintro _ rfl
    rw [Int.toNat_natCast, List.take_length]
    refine b_freeze 2 rfl ?_
    exact b_cons (s_ret (e_var 2) (fun M v r => r))
end

def bookSizesM (n e : Int) : List Int := ([3 * n] ++ (List.replicate n.toNat [2 * e + 2]).flatten) ++ (List.replicate (n * e).toNat [8 * (n + 3)]).flatten
def sp_law_book_sizes (K : Fg) : Sp := spG K (fun i : Int × Int => [.vl tI i.1, .vl tI i.2]) (fun i => (2 ≤ i.1 ∧ i.1 ≤ 40) ∧ 2 ≤ i.2 ∧ i.2 ≤ 20) (tLst tI) (fun i => bookSizesM i.1 i.2)
theorem flat_one {α : Type} (n : Nat) (x : α) : (List.replicate n [x]).flatten = List.replicate n x := by
  induction n with
  | zero => rfl
  | succ n ih => rw [List.replicate_succ, List.flatten_cons, ih, List.replicate_succ]; rfl
theorem bookSizes_eq (n e : Int) : bookSizesM n e = 3 * n :: (List.replicate n.toNat (2 * e + 2) ++ List.replicate (n * e).toNat (8 * (n + 3))) := by
  unfold bookSizesM; rw [flat_one, flat_one]; rfl
theorem mul_le_800 {n e : Int} (h0 : 0 ≤ n) (h1 : n ≤ 40) (h2 : 0 ≤ e) (h3 : e ≤ 20) : 0 ≤ n * e ∧ n * e ≤ 800 := by
  refine ⟨Int.mul_nonneg h0 h2, ?_⟩
  have a := Int.mul_le_mul_of_nonneg_right h1 h2
  omega
theorem bookSizes_ok {n e : Int} (h0 : 2 ≤ n) (h1 : n ≤ 40) (h2 : 2 ≤ e) (h3 : e ≤ 20) : (bookSizesM n e).length ≤ 3000 ∧ ∀ s ∈ bookSizesM n e, 0 < s ∧ s < 1073741824 := by
  have hm := mul_le_800 (by omega) h1 (by omega) h3
  rw [bookSizes_eq]
  refine ⟨?_, fun s hs => ?_⟩
  · simp only [List.length_cons, List.length_append, List.length_replicate]; omega
  · simp only [List.mem_cons, List.mem_append, List.mem_replicate] at hs
    omega
section
variable {P : Program} {w : World} {K : Fg} {mg : Str → Option Value} {base : Heap}
theorem sc_law_book_sizes : FnScope ["n", "e"] ["n", "e"] (defScope s_law_book_sizes) := ⟨rfl, rfl, rfl, by decide +kernel, rfl, by decide +kernel, by decide +kernel⟩
theorem ok_law_book_sizes {f : Addr} {fd : FuncData} (F : Fun K "_law_book_sizes" "_law_book_sizes" s_law_book_sizes f fd) (b : Bi mg)  : FnOk P w K mg base CX0 1 f fd ["n", "e"] (sp_law_book_sizes K) := by
  refine fn_ok F sc_law_book_sizes 0 rfl (fun _ => rfl) (fun cdv A outer s H E hr ⟨n, e⟩ hp => ?_)
  dsimp only at hp ⊢
  have hm := mul_le_800 (n := n) (e := e) (by omega) (by omega) (by omega) (by omega)
  refine b_cons (s_ret (EL.toE (el_cat (EL.toE (el_cat (EL.toE (el_lst (eh_cons (e_mulL e_int (e_var 0) (by decide)) eh_nil))) (EL.toE (el_rep (EL.toE (el_lst (eh_cons (e_add (e_mulL e_int (e_var 1) (by decide)) e_int) eh_nil))) (e_var 0) (by first | decide | omega) (by first | decide | omega | (simp only [List.length_cons, List.length_nil, List.length_append, rep_len, List.length_map, List.length_range, List.length_take, List.length_drop, List.length_replicate, List.length_set, Nat.zero_add, Nat.mul_one, Nat.one_mul]; omega)))) (by first | decide | omega | (simp only [List.length_cons, List.length_nil, List.length_append, rep_len, List.length_map, List.length_range, List.length_take, List.length_drop, List.length_replicate, List.length_set, Nat.zero_add, Nat.mul_one, Nat.one_mul]; omega)))) (EL.toE (el_rep (EL.toE (el_lst (eh_cons (e_mulL e_int (e_add (e_var 0) e_int) (by decide)) eh_nil))) (e_mulL (e_var 0) (e_var 1) (by first | decide | omega)) (by first | decide | omega) (by first | decide | omega | (simp only [List.length_cons, List.length_nil, List.length_append, rep_len, List.length_map, List.length_range, List.length_take, List.length_drop, List.length_replicate, List.length_set, Nat.zero_add, Nat.mul_one, Nat.one_mul]; omega)))) (by first | decide | omega | (simp only [List.length_cons, List.length_nil, List.length_append, rep_len, List.length_map, List.length_range, List.length_take, List.length_drop, List.length_replicate, List.length_set, Nat.zero_add, Nat.mul_one, Nat.one_mul]; omega)))) (fun M v r => ?_))
  exact r
end

def bookMany (row : List Int) (n : Int) : Int := if decide (n ≤ ix row 0) = true then 2 + ix row 0 % (n - 1) else 1 + ix row 0
def bookSize (row : List Int) (e k : Int) : Int :=
  let a := ix row (1 + k)
  let c := if decide (e < a) = true then a - e else a
  if decide (e < c) = true then 2 else c
def bookKind (row : List Int) (n e k : Int) : List Int := (List.range (bookSize row e k).toNat).map fun j : Nat => targetM (ix row (1 + n + k * e + (j : Int))) k (bookMany row n) (j : Int)
def bookM (row : List Int) (n e : Int) : List (List Int) := (List.range (bookMany row n).toNat).map fun k : Nat => bookKind row n e (k : Int)
def GoodRow (row : List Int) (n e : Int) : Prop := (row.length : Int) = 1 + n + n * e ∧ (0 ≤ ix row 0 ∧ ix row 0 < 3 * n) ∧ ∀ k : Int, 0 ≤ k → k < n → 0 ≤ ix row (1 + k) ∧ ix row (1 + k) < 2 * e + 2
def sp_law_book (K : Fg) : Sp := spG K (fun i : List Int × Int × Int => [.vl (tLst tI) i.1, .vl tI i.2.1, .vl tI i.2.2]) (fun i => ((2 ≤ i.2.1 ∧ i.2.1 ≤ 40) ∧ 2 ≤ i.2.2 ∧ i.2.2 ≤ 20) ∧ GoodRow i.1 i.2.1 i.2.2) (tTup (tTup tI)) (fun i => bookM i.1 i.2.1 i.2.2)
theorem bookMany_b {row : List Int} {n e : Int} (hn : 2 ≤ n) (h : GoodRow row n e) : 1 ≤ bookMany row n ∧ bookMany row n ≤ n := by
  obtain ⟨_, ⟨h1, h2⟩, _⟩ := h
  unfold bookMany
  have a1 := Int.emod_nonneg (ix row 0) (show n - 1 ≠ 0 by omega)
  have a2 := Int.emod_lt_of_pos (ix row 0) (show 0 < n - 1 by omega)
  split
  · omega
  · rename_i hh; simp only [decide_eq_true_eq] at hh; omega
theorem bookSize_b {row : List Int} {n e k : Int} (he : 2 ≤ e) (h : GoodRow row n e) (h0 : 0 ≤ k) (h1 : k < n) : 0 ≤ bookSize row e k ∧ bookSize row e k ≤ e := by
  obtain ⟨_, _, h⟩ := h
  obtain ⟨a, c⟩ := h k h0 h1
  unfold bookSize
  simp only [decide_eq_true_eq]
  repeat' split
  all_goals omega
/-- a book that is right -/
structure Good (ks : List (List Int)) (n e : Int) : Prop where
  pos : 0 < ks.length
  len : (ks.length : Int) ≤ n
  row : ∀ r ∈ ks, (r.length : Int) ≤ e ∧ ∀ t ∈ r, -3 ≤ t ∧ t < ks.length
theorem bookM_good {row : List Int} {n e : Int} (hn : 2 ≤ n) (he : 2 ≤ e) (h : GoodRow row n e) : Good (bookM row n e) n e := by
  have hm := bookMany_b hn h
  have hl : (bookM row n e).length = (bookMany row n).toNat := by unfold bookM; simp
  refine ⟨by rw [hl]; omega, by rw [hl]; omega, fun r hr => ?_⟩
  unfold bookM at hr
  obtain ⟨k, hk, rfl⟩ := List.mem_map.mp hr
  have hk' := List.mem_range.mp hk
  have hs := bookSize_b he h (k := (k : Int)) (by omega) (by omega)
  refine ⟨?_, fun t ht => ?_⟩
  · unfold bookKind; simp only [List.length_map, List.length_range]; omega
  · unfold bookKind at ht
    obtain ⟨j, hj, rfl⟩ := List.mem_map.mp ht
    have := target_good (ix row (1 + n + (k : Int) * e + (j : Int))) k (bookMany row n) j (by omega) (by omega)
    rw [hl]; omega
theorem ix_paired {F : Int → Int → Prop} {xs ys : List Int} (p : Paired F xs ys) {i : Int} (h0 : 0 ≤ i) (h1 : i < ys.length) : F (ix xs i) (ix ys i) := by
  have hy := ix_pos (xs := ys) h0 h1
  obtain ⟨x, q, f⟩ := paired_get p hy
  have hx := ix_pos (xs := xs) h0 (by rw [p.length]; exact h1)
  rw [hx] at q; cases q; exact f
theorem ix_getElem {α : Type} [Inhabited α] {xs : List α} {i : Int} {x : α} (h0 : 0 ≤ i) (h : xs[i.toNat]? = some x) : ix xs i = x := by
  have hl := (List.getElem?_eq_some_iff.mp h).1
  have := ix_pos (xs := xs) h0 (by omega)
  rw [h] at this; exact (Option.some.inj this).symm
theorem digits_goodRow {n e : Int} (c : Int) (h0 : 2 ≤ n) (h1 : n ≤ 40) (h2 : 2 ≤ e) (h3 : e ≤ 20) : GoodRow (digitsM c (bookSizesM n e)) n e := by
  have hm := mul_le_800 (n := n) (e := e) (by omega) h1 (by omega) h3
  have ok := bookSizes_ok h0 h1 h2 h3
  have p := dig_good c (bookSizesM n e) (fun s hs => (ok.2 s hs).1)
  have hl : ((bookSizesM n e).length : Int) = 1 + n + n * e := by
    rw [bookSizes_eq]; simp only [List.length_cons, List.length_append, List.length_replicate]; omega
  refine ⟨by rw [digits_len]; exact hl, ?_, fun k k0 k1 => ?_⟩
  · have := ix_paired p (i := 0) (by omega) (by omega)
    have e0 : ix (bookSizesM n e) 0 = 3 * n := by rw [bookSizes_eq]; exact ix_getElem (by omega) rfl
    rw [e0] at this; exact this
  · have := ix_paired p (i := 1 + k) (by omega) (by omega)
    have e0 : ix (bookSizesM n e) (1 + k) = 2 * e + 2 := by
      apply ix_getElem (by omega)
      rw [bookSizes_eq, show (1 + k).toNat = k.toNat + 1 by omega, List.getElem?_cons_succ, List.getElem?_append_left (by rw [List.length_replicate]; omega), List.getElem?_replicate, if_pos (by omega)]
    rw [e0] at this; exact this
section
variable {P : Program} {w : World} {K : Fg} {mg : Str → Option Value} {base : Heap}
theorem sc_law_book : FnScope ["row", "n", "e", "many", "kinds", "k", "size", "j"] ["row", "n", "e"] (defScope s_law_book) := ⟨rfl, rfl, rfl, by decide +kernel, rfl, by decide +kernel, by decide +kernel⟩
theorem ok_law_book {f : Addr} {fd : FuncData} (F : Fun K "_law_book" "_law_book" s_law_book f fd) (b : Bi mg) (C_law_target : Fn P w K mg base CX0 1 "_law_target" ["digit", "k", "many", "j"] (sp_law_target K)) : FnOk P w K mg base CX0 2 f fd ["row", "n", "e"] (sp_law_book K) := by
  refine fn_ok F sc_law_book 5 rfl (fun _ => rfl) (fun cdv A outer s H E hr ⟨row, n, e⟩ hp => ?_)
  dsimp only at hp ⊢
  obtain ⟨⟨⟨n0, n1⟩, e0, e1⟩, hG⟩ := hp
  have hG' := hG
  obtain ⟨hl, hr0, hrk⟩ := hG'
  have hmul := mul_le_800 (n := n) (e := e) (by omega) (by omega) (by omega) (by omega)
  have hM := bookMany_b n0 hG
  refine b_cons (s_set 3 (e_add e_int (e_ixL (e_var 0) e_int (atI_ix (by first | decide | omega | (simp only [List.length_cons, List.length_nil]; omega)) (by first | decide | omega | (simp only [List.length_cons, List.length_nil]; omega))))) ?_ sc_law_book.nd)
  refine b_cons (s_ifSet 3 rfl (t_cv (e_ixL (e_var 0) e_int (atI_ix (by first | decide | omega | (simp only [List.length_cons, List.length_nil]; omega)) (by first | decide | omega | (simp only [List.length_cons, List.length_nil]; omega)))) (e_var 1) cv_ge) (fun h => (e_add e_int (e_mod (e_intI b.int (e_ixL (e_var 0) e_int (atI_ix (by first | decide | omega | (simp only [List.length_cons, List.length_nil]; omega)) (by first | decide | omega | (simp only [List.length_cons, List.length_nil]; omega))))) (e_sub (e_var 1) e_int) (by first | decide | omega)))) ?_ sc_law_book.nd)
  refine b_cons (s_own 4 (el_lst (s := (tTup tI)) eh_nil) ?_ sc_law_book.nd)
  refine b_cons (s_forR 5 (fun m G' => G' = [.vl (tLst tI) row, .vl tI n, .vl tI e, .vl tI (bookMany row n), .ow (tTup tI) ((List.range m).map fun k : Nat => bookKind row n e (k : Int)), .un, .un, .un]) _ b.range (e_var 3) (by show -4611686018427387904 ≤ bookMany row n ∧ bookMany row n < 4611686018427387904; omega) (Sub.refl _) rfl ?_ ?_ sc_law_book.nd rfl)
  · rintro m _ hm rfl
    have hm' : (m : Int) < bookMany row n := hm
    have hs := bookSize_b e0 hG (k := (m : Int)) (by omega) (by omega)
    have hk := hrk m (by omega) (by omega)
    have hme : (m : Int) * e + e ≤ n * e := by
      have := Int.mul_le_mul_of_nonneg_right (show (m : Int) + 1 ≤ n by omega) (show 0 ≤ e by omega)
      rw [Int.add_mul] at this; omega
    have hme0 : 0 ≤ (m : Int) * e := Int.mul_nonneg (by omega) (by omega)
    refine b_cons (s_set 6 (e_ixL (e_var 0) (e_add e_int (e_var 5)) (atI_ix (by first | decide | omega | (simp only [List.length_cons, List.length_nil]; omega)) (by first | decide | omega | (simp only [List.length_cons, List.length_nil]; omega)))) ?_ sc_law_book.nd)
    refine b_cons (s_ifSet 6 rfl (t_cv (e_var 6) (e_var 2) cv_gt) (fun h => (e_sub (e_var 6) (e_var 2))) ?_ sc_law_book.nd)
    refine b_cons (s_ifSet 6 rfl (t_cv (e_var 6) (e_var 2) cv_gt) (fun h => e_int) ?_ sc_law_book.nd)
    refine b_cons (s_app 4 rfl (e_tupL b.tuple (EL.toE (el_lc (lc_R (own := [("j", 7)]) b.range (e_var 6) (by show -1000000 ≤ bookSize row e m ∧ bookSize row e m ≤ 1000000; omega) 7 (fun s0 H C cl fp j hx => have hj : (j : Int) < bookSize row e m := hx; (e_call C_law_target (hr.mono (by decide)) (_, _, _, _) (ea_cons (e_ixL (e_var 0) (e_add (e_add (e_add e_int (e_var 1)) (e_mulL (e_var 5) (e_var 2) (by first | decide | omega))) (e_var 7)) (atI_ix (by first | decide | omega | (simp only [List.length_cons, List.length_nil]; omega)) (by first | decide | omega | (simp only [List.length_cons, List.length_nil]; omega)))) (ea_cons (e_var 5) (ea_cons (e_var 3) (ea_cons (e_var 7) ea_nil)))) (by exact ⟨by show (0 : Int) ≤ m; omega, hm', by show bookMany row n ≤ 1000; omega⟩))) (blkOk_by (N := ["row", "n", "e", "many", "kinds", "k", "size", "j"]) (sc := defScope s_law_book) (by decide +kernel)) (fun _ _ _ _ _ => pg_name sc_law_book.nd rfl (by first | exact Or.inl rfl | exact Or.inr rfl))) rfl sc_law_book.nd))) (by first | decide | omega | (simp only [List.length_cons, List.length_nil, List.length_append, rep_len, List.length_map, List.length_range, List.length_take, List.length_drop, List.length_replicate, List.length_set, Nat.zero_add, Nat.mul_one, Nat.one_mul]; omega)) ?_)
    refine B.weak (b_nil rfl) ?_
    rw [List.range_succ, List.map_append]
    exact .same (.same (.same (.same (.same (.un (.un (.un .nil)))))))
  · rintro _ rfl
    exact b_cons (s_ret (e_read 4 rfl (imm_T (imm_T imm_I)) (e_tupL b.tuple (e_var 4))) (fun M v r => r))
end

def stT (c : Int) (z : List Int × List Int) (t : Int) : List Int × List Int := if 0 ≤ t then (z.1.set t.toNat (ix z.1 t + c), z.2) else (z.1, z.2.set (-1 - t).toNat (ix z.2 (-1 - t) + c))
def stK (kinds : List (List Int)) (counts : List Int) (z : List Int × List Int) (k : Nat) : List Int × List Int := if decide (0 < ix counts (k : Int)) = true then (ix kinds (k : Int)).foldl (stT (ix counts (k : Int))) z else z
def nextM (kinds : List (List Int)) (counts : List Int) : List Int × List Int := (List.range kinds.length).foldl (stK kinds counts) (List.replicate kinds.length 0, [0, 0, 0])
theorem stT_len (c : Int) (z : List Int × List Int) (t : Int) : (stT c z t).1.length = z.1.length ∧ (stT c z t).2.length = z.2.length := by
  unfold stT; split <;> simp
theorem stTs_len (c : Int) : ∀ (ts : List Int) (z : List Int × List Int), (ts.foldl (stT c) z).1.length = z.1.length ∧ (ts.foldl (stT c) z).2.length = z.2.length
  | [], z => ⟨rfl, rfl⟩
  | t :: ts, z => by
    have a := stTs_len c ts (stT c z t)
    have b := stT_len c z t
    exact ⟨a.1.trans b.1, a.2.trans b.2⟩
theorem stK_len (kinds : List (List Int)) (counts : List Int) (z : List Int × List Int) (k : Nat) : (stK kinds counts z k).1.length = z.1.length ∧ (stK kinds counts z k).2.length = z.2.length := by
  unfold stK; split
  · exact stTs_len _ _ _
  · exact ⟨rfl, rfl⟩
theorem stKs_len (kinds : List (List Int)) (counts : List Int) : ∀ (ks : List Nat) (z : List Int × List Int), (ks.foldl (stK kinds counts) z).1.length = z.1.length ∧ (ks.foldl (stK kinds counts) z).2.length = z.2.length
  | [], z => ⟨rfl, rfl⟩
  | t :: ts, z => by
    have a := stKs_len kinds counts ts (stK kinds counts z t)
    have b := stK_len kinds counts z t
    exact ⟨a.1.trans b.1, a.2.trans b.2⟩
theorem foldl_take_succ {α β : Type} (f : α → β → α) {xs : List β} {m : Nat} {x : β} (z : α) (h : xs[m]? = some x) : (xs.take (m + 1)).foldl f z = f ((xs.take m).foldl f z) x := by
  rw [take_snoc h, List.foldl_append]; rfl
theorem foldl_range_succ {α : Type} (f : α → Nat → α) (m : Nat) (z : α) : (List.range (m + 1)).foldl f z = f ((List.range m).foldl f z) m := by
  rw [List.range_succ, List.foldl_append]; rfl
theorem flat_rep (n : Nat) : (List.replicate n ([0] : List Int)).flatten = List.replicate n 0 := by
  induction n with
  | zero => rfl
  | succ n ih => rw [List.replicate_succ, List.flatten_cons, ih]; rfl
theorem getElem?_ix {α : Type} [Inhabited α] {xs : List α} {i : Int} (h0 : 0 ≤ i) (h1 : i < xs.length) : xs[i.toNat]? = some (ix xs i) := ix_pos h0 h1
theorem ixN_pos {n : Nat} {i : Int} (h0 : 0 ≤ i) (h1 : i < n) : ixN n i = some i.toNat := by
  unfold ixN
  rw [if_pos h0, if_pos h1]
def spnext_counts (K : Fg) : Sp := spG K (fun i : List (List Int) × List Int => [.vl (tTup (tTup tI)) i.1, .vl (tLst tI) i.2]) (fun i => Good i.1 40 20 ∧ i.2.length = i.1.length) (tP2 (tLst tI) (tLst tI)) (fun i => nextM i.1 i.2)
section
variable {P : Program} {w : World} {K : Fg} {mg : Str → Option Value} {base : Heap}
theorem sc_next_counts : FnScope ["kinds", "counts", "found", "marks", "kind", "target"] ["kinds", "counts"] (defScope snext_counts) := ⟨rfl, rfl, rfl, by decide +kernel, rfl, by decide +kernel, by decide +kernel⟩
theorem oknext_counts {f : Addr} {fd : FuncData} (F : Fun K "next_counts" "next_counts" snext_counts f fd) (b : Bi mg)  : FnOk P w K mg base CX0 1 f fd ["kinds", "counts"] (spnext_counts K) := by
  refine fn_ok F sc_next_counts 4 rfl (fun _ => rfl) (fun cdv A outer s H E hr ⟨kinds, counts⟩ hp => ?_)
  dsimp only at hp ⊢
  obtain ⟨hg, hc⟩ := hp
  have hlen := hg.len
  have hpos := hg.pos
  refine b_cons (s_own 2 (el_rep (EL.toE (el_lst (eh_cons e_int eh_nil))) (e_lenT b.len (e_var 0)) (by omega) (by simp only [List.length_cons, List.length_nil]; omega)) ?_ sc_next_counts.nd)
  rw [flat_rep, Int.toNat_natCast]
  refine b_cons (s_own 3 (el_lst (eh_cons e_int (eh_cons e_int (eh_cons e_int eh_nil)))) ?_ sc_next_counts.nd)
  refine b_cons (s_forR 4 (fun m G' => G' = [.vl (tTup (tTup tI)) kinds, .vl (tLst tI) counts, .ow tI ((List.range m).foldl (stK kinds counts) (List.replicate kinds.length 0, [0, 0, 0])).1, .ow tI ((List.range m).foldl (stK kinds counts) (List.replicate kinds.length 0, [0, 0, 0])).2, .un, .un]) _ b.range (e_lenT b.len (e_var 0)) (by omega) (Sub.refl _) rfl ?_ ?_ sc_next_counts.nd rfl)
  · rintro m _ hm rfl
    rw [foldl_range_succ]
    have hz := stKs_len kinds counts (List.range m) (List.replicate kinds.length 0, [0, 0, 0])
    simp only [List.length_replicate, List.length_cons, List.length_nil] at hz
    generalize (List.range m).foldl (stK kinds counts) (List.replicate kinds.length 0, [0, 0, 0]) = z at hz ⊢
    have hrow := hg.row _ (ix_mem (xs := kinds) (i := (m : Int)) (by omega) (by omega))
    refine b_cut (fun G' => ∃ a, G' = [.vl (tTup (tTup tI)) kinds, .vl (tLst tI) counts, .ow tI (stK kinds counts z m).1, .ow tI (stK kinds counts z m).2, .vl tI (m : Int), a]) (s_if (t_cv (e_ixL (e_var 1) (e_var 4) (atI_ix (by omega) (by omega))) e_int cv_gt) (fun h => ?_) (fun h => ?_)) ?_
    · rw [show stK kinds counts z m = (ix kinds (m : Int)).foldl (stT (ix counts (m : Int))) z by unfold stK; rw [if_pos h]]
      refine b_cons (s_forT 5 (fun j G' => G' = [.vl (tTup (tTup tI)) kinds, .vl (tLst tI) counts, .ow tI (((ix kinds (m : Int)).take j).foldl (stT (ix counts (m : Int))) z).1, .ow tI (((ix kinds (m : Int)).take j).foldl (stT (ix counts (m : Int))) z).2, .vl tI (m : Int), .un]) _ (e_ixT (e_var 0) (e_var 4) (atI_ix (by omega) (by omega))) (Sub.refl _) rfl ?_ ?_ sc_next_counts.nd rfl)
      · rintro j x _ hx rfl
        rw [foldl_take_succ _ _ hx]
        have hy := stTs_len (ix counts (m : Int)) ((ix kinds (m : Int)).take j) z
        generalize ((ix kinds (m : Int)).take j).foldl (stT (ix counts (m : Int))) z = y at hy ⊢
        have hxb := hrow.2 x (List.mem_of_getElem? hx)
        refine b_cut (fun G' => ∃ a, G' = [.vl (tTup (tTup tI)) kinds, .vl (tLst tI) counts, .ow tI (stT (ix counts (m : Int)) y x).1, .ow tI (stT (ix counts (m : Int)) y x).2, .vl tI (m : Int), a]) (s_if (t_cv (e_var 5) e_int cv_ge) (fun h => ?_) (fun h => ?_)) ?_
        · have h' : 0 ≤ x := of_decide_eq_true h
          refine b_cons (s_augI 2 (l := x.toNat) rfl (e_var 5) (e_ixL (e_var 1) (e_var 4) (atI_ix (by omega) (by omega))) (ixN_pos (by omega) (by omega)) (getElem?_ix (by omega) (by omega)) ?_)
          unfold stT; rw [if_pos h']
          exact b_nil ⟨_, rfl⟩
        · have h' : ¬ 0 ≤ x := of_decide_eq_false h
          refine b_cons (s_augI 3 (l := (-1 - x).toNat) rfl (e_sub (e_neg e_int) (e_var 5)) (e_ixL (e_var 1) (e_var 4) (atI_ix (by omega) (by omega))) (ixN_pos (by omega) (by omega)) (getElem?_ix (by omega) (by omega)) ?_)
          unfold stT; rw [if_neg h']
          exact b_nil ⟨_, rfl⟩
        rintro _ ⟨a, rfl⟩
        exact B.weak (b_nil rfl) (.same (.same (.same (.same (.same (.un .nil))))))
      · rintro _ rfl
        rw [List.take_length]
        exact b_nil ⟨_, rfl⟩
    · rw [show stK kinds counts z m = z by unfold stK; rw [if_neg (nt h)]]
      exact b_nil ⟨_, rfl⟩
    rintro _ ⟨a, rfl⟩
    exact B.weak (b_nil rfl) (.same (.same (.same (.same (.un (.un .nil))))))
  · rintro _ rfl
    refine b_freeze 2 rfl (b_freeze 3 rfl ?_)
    exact b_cons (s_ret (e_p2 (e_var 2) (e_var 3)) (fun M v r => r))
end

def nAdd (table : List (List Int)) (sums : List Int) (t : Int) : List Int := if t < 0 then sums.set (-t).toNat (ix sums (-t) + 1) else (List.range 4).foldl (fun s (m : Nat) => s.set m (ix s (m : Int) + ix (ix table t) (m : Int))) sums
def nRow (table : List (List Int)) (kind : List Int) : List Int := kind.foldl (nAdd table) [0, 0, 0, 0]
def numM (kinds : List (List Int)) : Nat → List (List Int)
  | 0 => kinds.map fun _ => [1, 0, 0, 0]
  | d + 1 => kinds.map (nRow (numM kinds d))
theorem sets_len (row : List Int) : ∀ (ms : List Nat) (s : List Int), (ms.foldl (fun s (m : Nat) => s.set m (ix s (m : Int) + ix row (m : Int))) s).length = s.length
  | [], s => rfl
  | m :: ms, s => by rw [List.foldl_cons, sets_len row ms, List.length_set]
theorem nAdd_len (table : List (List Int)) (sums : List Int) (t : Int) : (nAdd table sums t).length = sums.length := by
  unfold nAdd; split
  · rw [List.length_set]
  · exact sets_len _ _ _
theorem nAdds_len (table : List (List Int)) : ∀ (ts : List Int) (s : List Int), (ts.foldl (nAdd table) s).length = s.length
  | [], s => rfl
  | t :: ts, s => by rw [List.foldl_cons, nAdds_len table ts, nAdd_len]
theorem numM_len (kinds : List (List Int)) : ∀ d, (numM kinds d).length = kinds.length
  | 0 => by simp [numM]
  | d + 1 => by simp [numM]
theorem numM_row (kinds : List (List Int)) : ∀ d, ∀ r ∈ numM kinds d, r.length = 4
  | 0, r, h => by
    obtain ⟨_, _, rfl⟩ := List.mem_map.mp h
    rfl
  | d + 1, r, h => by
    obtain ⟨k, _, rfl⟩ := List.mem_map.mp h
    exact nAdds_len _ _ _
def sp_law_numbers (K : Fg) : Sp := spG K (fun i : List (List Int) × Int => [.vl (tTup (tTup tI)) i.1, .vl tI i.2]) (fun i => Good i.1 40 20 ∧ 0 ≤ i.2 ∧ i.2 ≤ 300) (tLst (tLst tI)) (fun i => numM i.1 i.2.toNat)
section
variable {P : Program} {w : World} {K : Fg} {mg : Str → Option Value} {base : Heap}
theorem sc_law_numbers : FnScope ["kinds", "deep", "table", "kind", "turn", "later", "sums", "target", "m"] ["kinds", "deep"] (defScope s_law_numbers) := ⟨rfl, rfl, rfl, by decide +kernel, rfl, by decide +kernel, by decide +kernel⟩
theorem ok_law_numbers {f : Addr} {fd : FuncData} (F : Fun K "_law_numbers" "_law_numbers" s_law_numbers f fd) (b : Bi mg)  : FnOk P w K mg base CX0 1 f fd ["kinds", "deep"] (sp_law_numbers K) := by
  refine fn_ok F sc_law_numbers 7 rfl (fun _ => rfl) (fun cdv A outer s H E hr ⟨kinds, deep⟩ hp => ?_)
  dsimp only at hp ⊢
  obtain ⟨hg, hd⟩ := hp
  have hlen := hg.len
  refine b_cons (s_lc 2 (lc_T (own := [("kind", 3)]) (e_var 0) 3 (fun s0 H C cl fp m x hx => EL.toE (el_lst (eh_cons e_int (eh_cons e_int (eh_cons e_int (eh_cons e_int eh_nil)))))) (blkOk_by (N := ["kinds", "deep", "table", "kind", "turn", "later", "sums", "target", "m"]) (sc := defScope s_law_numbers) (by decide +kernel)) (by omega) (fun _ _ _ _ _ => pg_name sc_law_numbers.nd rfl (by first | exact Or.inl rfl | exact Or.inr rfl))) ?_ rfl sc_law_numbers.nd)
  refine b_freeze 2 rfl ?_
  refine b_cons (s_forR 4 (fun m G' => G' = [.vl (tTup (tTup tI)) kinds, .vl tI deep, .vl (tLst (tLst tI)) (numM kinds m), .un, .un, .un, .un, .un, .un]) _ b.range (e_var 1) (by omega) (Sub.refl _) rfl ?_ ?_ sc_law_numbers.nd rfl)
  · rintro d _ hm rfl
    have hnl := numM_len kinds d
    have hnr := numM_row kinds d
    have hs : numM kinds (d + 1) = kinds.map (nRow (numM kinds d)) := rfl
    generalize numM kinds d = table at hnl hnr hs ⊢
    refine b_cons (s_own 5 (el_lst (s := (tLst tI)) eh_nil) ?_ sc_law_numbers.nd)
    refine b_cons (s_forT 3 (fun m G' => G' = [.vl (tTup (tTup tI)) kinds, .vl tI deep, .vl (tLst (tLst tI)) table, .un, .vl tI (d : Int), .ow (tLst tI) ((kinds.take m).map (nRow table)), .un, .un, .un]) _ (e_var 0) (Sub.refl _) rfl ?_ ?_ sc_law_numbers.nd rfl)
    · rintro m kind _ hx rfl
      rw [take_snoc hx, List.map_append]
      have hm0 := (List.getElem?_eq_some_iff.mp hx).1
      have hl0 : ((kinds.take m).map (nRow table)).length = m := by rw [List.length_map, List.length_take]; omega
      generalize (kinds.take m).map (nRow table) = later at hl0 ⊢
      have hrow := hg.row _ (List.mem_of_getElem? hx)
      refine b_cons (s_own 6 (el_lst (eh_cons e_int (eh_cons e_int (eh_cons e_int (eh_cons e_int eh_nil))))) ?_ sc_law_numbers.nd)
      refine b_cons (s_forT 7 (fun j G' => G' = [.vl (tTup (tTup tI)) kinds, .vl tI deep, .vl (tLst (tLst tI)) table, .vl (tTup tI) kind, .vl tI (d : Int), .ow (tLst tI) later, .ow tI ((kind.take j).foldl (nAdd table) [0, 0, 0, 0]), .un, .un]) _ (e_var 3) (Sub.refl _) rfl ?_ ?_ sc_law_numbers.nd rfl)
      · rintro j target _ hx rfl
        rw [foldl_take_succ _ _ hx]
        have hsl := nAdds_len table (kind.take j) [0, 0, 0, 0]
        simp only [List.length_cons, List.length_nil] at hsl
        generalize (kind.take j).foldl (nAdd table) [0, 0, 0, 0] = sums at hsl ⊢
        have ht := hrow.2 _ (List.mem_of_getElem? hx)
        refine b_cut (fun G' => ∃ a, G' = [.vl (tTup (tTup tI)) kinds, .vl tI deep, .vl (tLst (tLst tI)) table, .vl (tTup tI) kind, .vl tI (d : Int), .ow (tLst tI) later, .ow tI (nAdd table sums target), .vl tI target, a]) (s_if (t_cv (e_var 7) e_int cv_lt) (fun h => ?_) (fun h => ?_)) ?_
        · have h' : target < 0 := of_decide_eq_true h
          refine b_cons (s_seti 6 (m := (-target).toNat) rfl (e_read 6 rfl imm_I (e_add (e_ixL (e_var 6) (e_neg (e_var 7)) (atI_ix (by omega) (by omega))) e_int)) (e_neg (e_var 7)) (ixN_pos (by omega) (by omega)) ?_)
          unfold nAdd; rw [if_pos h']
          exact b_nil ⟨_, rfl⟩
        · have h' : ¬ target < 0 := of_decide_eq_false h
          have hrl := hnr _ (ix_mem (xs := table) (i := target) (by omega) (by omega))
          unfold nAdd; rw [if_neg h']
          refine b_cons (s_forR 8 (fun q G' => G' = [.vl (tTup (tTup tI)) kinds, .vl tI deep, .vl (tLst (tLst tI)) table, .vl (tTup tI) kind, .vl tI (d : Int), .ow (tLst tI) later, .ow tI ((List.range q).foldl (fun s (m : Nat) => s.set m (ix s (m : Int) + ix (ix table target) (m : Int))) sums), .vl tI target, .un]) _ b.range e_int (by decide) (Sub.refl _) rfl ?_ ?_ sc_law_numbers.nd rfl)
          · rintro q _ hq rfl
            rw [foldl_range_succ]
            have hql := sets_len (ix table target) (List.range q) sums
            generalize (List.range q).foldl (fun s (m : Nat) => s.set m (ix s (m : Int) + ix (ix table target) (m : Int))) sums = ss at hql ⊢
            refine b_cons (s_seti 6 (m := q) rfl (e_read 6 rfl imm_I (e_add (e_ixL (e_var 6) (e_var 8) (atI_ix (by omega) (by omega))) (e_ixL (e_ixL (e_var 2) (e_var 7) (atI_ix (by omega) (by omega))) (e_var 8) (atI_ix (by omega) (by omega))))) (e_var 8) (by rw [ixN_pos (by omega) (by omega), Int.toNat_natCast]) ?_)
            exact B.weak (b_nil rfl) (.same (.same (.same (.same (.same (.same (.same (.same (.un .nil)))))))))
          · rintro _ rfl
            exact b_nil ⟨_, rfl⟩
        rintro _ ⟨a, rfl⟩
        exact B.weak (b_nil rfl) (.same (.same (.same (.same (.same (.same (.same (.un (.un .nil)))))))))
      · rintro _ rfl
        rw [List.take_length]
        refine b_freeze 6 rfl ?_
        refine b_cons (s_app 5 rfl (e_var 6) (by omega) ?_)
        exact B.weak (b_nil rfl) (.same (.same (.same (.un (.same (.same (.un (.un (.un .nil)))))))))
    · rintro _ rfl
      rw [List.take_length]
      refine b_freeze 5 rfl ?_
      refine b_cons (s_set 2 (e_var 5) ?_ sc_law_numbers.nd)
      refine B.weak (b_nil rfl) ?_
      rw [hs]
      exact .same (.same (.same (.un (.un (.un (.un (.un (.un .nil))))))))
  · rintro _ rfl
    exact b_cons (s_ret (e_var 2) (fun M v r => r))
end

def smallM (kinds : List (List Int)) (first deep : Int) : Bool := (List.range (deep + 1).toNat).all fun d => decide ((ix (numM kinds d) first).sum ≤ 300)
theorem small_of {kinds : List (List Int)} {first deep : Int} (h : smallM kinds first deep = true) (d : Nat) (hd : (d : Int) ≤ deep) : (ix (numM kinds d) first).sum ≤ 300 := by
  have := List.all_eq_true.mp h d (List.mem_range.mpr (by omega))
  exact of_decide_eq_true this
def sp_law_is_small (K : Fg) : Sp := spG K (fun i : List (List Int) × Int × Int => [.vl (tTup (tTup tI)) i.1, .vl tI i.2.1, .vl tI i.2.2]) (fun i => Good i.1 40 20 ∧ (0 ≤ i.2.1 ∧ i.2.1 < i.1.length) ∧ 0 ≤ i.2.2 ∧ i.2.2 ≤ 300) tB (fun i => smallM i.1 i.2.1 i.2.2)
section
variable {P : Program} {w : World} {K : Fg} {mg : Str → Option Value} {base : Heap}
theorem sc_law_is_small : FnScope ["kinds", "first", "deep", "d"] ["kinds", "first", "deep"] (defScope s_law_is_small) := ⟨rfl, rfl, rfl, by decide +kernel, rfl, by decide +kernel, by decide +kernel⟩
theorem ok_law_is_small {f : Addr} {fd : FuncData} (F : Fun K "_law_is_small" "_law_is_small" s_law_is_small f fd) (b : Bi mg) (C_law_numbers : Fn P w K mg base CX0 1 "_law_numbers" ["kinds", "deep"] (sp_law_numbers K)) : FnOk P w K mg base CX0 2 f fd ["kinds", "first", "deep"] (sp_law_is_small K) := by
  refine fn_ok F sc_law_is_small 1 rfl (fun _ => rfl) (fun cdv A outer s H E hr ⟨kinds, first, deep⟩ hp => ?_)
  dsimp only at hp ⊢
  obtain ⟨hg, hf, hd⟩ := hp
  refine b_cons (s_forR 3 (fun m G' => (∀ d < m, (ix (numM kinds d) first).sum ≤ 300) ∧ G' = [.vl (tTup (tTup tI)) kinds, .vl tI first, .vl tI deep, .un]) _ b.range (e_add (e_var 2) e_int) (by omega) (Sub.refl _) ⟨fun d h => absurd h (Nat.not_lt_zero d), rfl⟩ ?_ ?_ sc_law_is_small.nd rfl)
  · rintro m _ hm ⟨hI, rfl⟩
    have hl := numM_len kinds m
    have e0 : (m : Int).toNat = m := Int.toNat_natCast m
    refine b_cons (s_if (t_cv (e_sum rfl b.sum (e_ixL (e_call C_law_numbers (hr.mono (by decide)) (kinds, (m : Int)) (ea_cons (e_var 0) (ea_cons (e_var 3) ea_nil)) (by refine ⟨hg, ?_⟩; dsimp only; omega)) (e_var 1) (atI_ix (i := first) (by omega) (by show first < ((numM kinds (m : Int).toNat).length : Int); rw [e0]; omega)))) e_int cv_gt) (fun h1 => ?_) (fun h1 => ?_))
    · have h1p := of_decide_eq_true h1
      dsimp only at h1p
      rw [e0] at h1p
      refine b_cons (s_ret e_bl (fun M v r => ?_))
      refine ret_is r ?_
      by_cases hs : smallM kinds first deep = true
      · have := small_of hs m (by omega); omega
      · simpa using hs
    · have h1p := of_decide_eq_false h1
      dsimp only at h1p
      rw [e0] at h1p
      refine b_nil (B.weak (b_nil ⟨fun d hd => ?_, rfl⟩) (.same (.same (.same (.un .nil)))))
      by_cases z : d = m
      · rw [z]; omega
      · exact hI d (by omega)
  · rintro _ ⟨hI, rfl⟩
    refine b_cons (s_ret e_bl (fun M v r => ?_))
    refine ret_is r ?_
    unfold smallM
    exact List.all_eq_true.mpr fun d hd => decide_eq_true (hI d (List.mem_range.mp hd))
end

def bookFs (ks : List (List Int)) : List (Str × Cl) := [("kinds", ⟨tTup (tTup tI), ks⟩)]
abbrev tBook (C : Addr) : Ty (List (List Int)) := tOb C bookFs
theorem e_kinds {X : Cx} {G : List Sl} {a : Expr} {pos : Pos} {C : Addr} {ks : List (List Int)} (he : E X G a (tBook C) ks) (hC : Cls X.K C) (hna : NoAttr X.K C "kinds") (hb : attributeBase a "kinds" X.env (eval a X.env) = eval a X.env := by rfl) : E X G (.Attribute a "kinds" pos) (tTup (tTup tI)) ks :=
  e_fld (cl := ⟨tTup (tTup tI), ks⟩) he hC hna rfl hb

def frontM (kinds : List (List Int)) (start : Int) : Nat → List Int × List Int
  | 0 => ((List.replicate kinds.length 0).set start.toNat 1, [0, 0, 0])
  | d + 1 => ((nextM kinds (frontM kinds start d).1).1, (List.range 3).map fun m : Nat => ix (frontM kinds start d).2 (m : Int) + ix (nextM kinds (frontM kinds start d).1).2 (m : Int))
theorem nextM_len (kinds : List (List Int)) (counts : List Int) : (nextM kinds counts).1.length = kinds.length ∧ (nextM kinds counts).2.length = 3 := by
  have := stKs_len kinds counts (List.range kinds.length) (List.replicate kinds.length 0, [0, 0, 0])
  unfold nextM
  simpa using this
theorem frontM_len (kinds : List (List Int)) (start : Int) : ∀ d, (frontM kinds start d).1.length = kinds.length ∧ (frontM kinds start d).2.length = 3
  | 0 => by simp [frontM]
  | d + 1 => ⟨(nextM_len _ _).1, by simp [frontM]⟩
def spcount_front (K : Fg) (C : Addr) : Sp := spG K (fun i : List (List Int) × Int × Int => [.vl (tBook C) i.1, .vl tI i.2.1, .vl tI i.2.2]) (fun i => Good i.1 40 20 ∧ (0 ≤ i.2.1 ∧ i.2.1 ≤ 300) ∧ (0 ≤ i.2.2 ∧ i.2.2 < i.1.length)) (tTup tI) (fun i => let z := frontM i.1 i.2.2 i.2.1.toNat; [z.1.sum, ix z.2 0, ix z.2 1, ix z.2 2])
section
variable {P : Program} {w : World} {K : Fg} {mg : Str → Option Value} {base : Heap}
theorem sc_count_front : FnScope ["book", "depth", "start", "counts", "total", "_", "marks", "mark"] ["book", "depth", "start"] (defScope scount_front) := ⟨rfl, rfl, rfl, by decide +kernel, rfl, by decide +kernel, by decide +kernel⟩
theorem okcount_front {C : Addr} (hC : Cls K C) (hna : NoAttr K C "kinds") {f : Addr} {fd : FuncData} (F : Fun K "count_front" "count_front" scount_front f fd) (b : Bi mg) (Cnext_counts : Fn P w K mg base CX0 1 "next_counts" ["kinds", "counts"] (spnext_counts K)) : FnOk P w K mg base CX0 2 f fd ["book", "depth", "start"] (spcount_front K C) := by
  refine fn_ok F sc_count_front 5 rfl (fun _ => rfl) (fun cdv A outer s H E hr ⟨book, depth, st0⟩ hp => ?_)
  dsimp only at hp ⊢
  obtain ⟨hg, hd, hst⟩ := hp
  have hlen := hg.len
  refine b_cons (s_own 3 (el_rep (EL.toE (el_lst (eh_cons e_int eh_nil))) (e_lenT b.len (e_kinds (e_var 0) hC hna)) (by omega) (by simp only [List.length_cons, List.length_nil]; omega)) ?_ sc_count_front.nd)
  rw [flat_rep, Int.toNat_natCast]
  refine b_cons (s_seti 3 (m := st0.toNat) rfl e_int (e_var 2) (ixN_pos (by omega) (by rw [List.length_replicate]; omega)) ?_)
  refine b_cons (s_own 4 (el_lst (eh_cons e_int (eh_cons e_int (eh_cons e_int eh_nil)))) ?_ sc_count_front.nd)
  refine b_freeze 3 rfl (b_freeze 4 rfl ?_)
  refine b_cons (s_forR 5 (fun m G' => G' = [.vl (tBook C) book, .vl tI depth, .vl tI st0, .vl (tLst tI) (frontM book st0 m).1, .vl (tLst tI) (frontM book st0 m).2, .un, .un, .un]) _ b.range (e_var 1) (by omega) (Sub.refl _) rfl ?_ ?_ sc_count_front.nd rfl)
  · rintro m _ hm rfl
    have hl := frontM_len book st0 m
    have hl2 := nextM_len book (frontM book st0 m).1
    refine b_cons (s_unp2 3 6 (x := (nextM book (frontM book st0 m).1).1) (y := (nextM book (frontM book st0 m).1).2) (e_call Cnext_counts (hr.mono (by decide)) (_, _) (ea_cons (e_kinds (e_var 0) hC hna) (ea_cons (e_var 3) ea_nil)) (by exact ⟨hg, hl.1⟩)) ?_ sc_count_front.nd rfl)
    refine b_cons (s_set 4 (EL.toE (el_lc (lc_R (own := [("mark", 7)]) b.range e_int (by decide) 7 (fun s0 H C cl fp m hx => (e_add (e_ixL (e_var 4) (e_var 7) (atI_ix (by omega) (by omega))) (e_ixL (e_var 6) (e_var 7) (atI_ix (by omega) (by omega))))) (blkOk_by (N := ["book", "depth", "start", "counts", "total", "_", "marks", "mark"]) (sc := defScope scount_front) (by decide +kernel)) (fun _ _ _ _ _ => pg_name sc_count_front.nd rfl (by first | exact Or.inl rfl | exact Or.inr rfl))) rfl sc_count_front.nd)) ?_ sc_count_front.nd)
    exact B.weak (b_nil rfl) (.same (.same (.same (.same (.same (.un (.un (.un .nil))))))))
  · rintro _ rfl
    have hl := frontM_len book st0 depth.toNat
    exact b_cons (s_ret (e_tup (eh_cons (e_sum rfl b.sum (e_var 3)) (eh_cons (e_ixL (e_var 4) e_int (atI_ix (by omega) (by omega))) (eh_cons (e_ixL (e_var 4) e_int (atI_ix (by omega) (by omega))) (eh_cons (e_ixL (e_var 4) e_int (atI_ix (by omega) (by omega))) eh_nil))))) (fun M v r => r))
end

def contRow (kinds : List (List Int)) (p : List Int × Int) : List (List Int × Int) := if p.2 < 0 then [p] else (List.range (ix kinds p.2).length).map fun s : Nat => (p.1 ++ [(s : Int)], ix (ix kinds p.2) (s : Int))
def contM (kinds : List (List Int)) (ps : List (List Int × Int)) : List (List Int × Int) := (ps.map (contRow kinds)).flatten
def spcontinued (K : Fg) : Sp := spG K (fun i : List (List Int) × List (List Int × Int) => [.vl (tTup (tTup tI)) i.1, .vl (tLst (tP2 (tTup tI) tI)) i.2]) (fun i => Good i.1 40 20 ∧ (∀ p ∈ i.2, p.1.length ≤ 1000 ∧ p.2 < i.1.length) ∧ (contM i.1 i.2).length ≤ 1000) (tLst (tP2 (tTup tI) tI)) (fun i => contM i.1 i.2)
theorem flat_take_succ {α β : Type} (f : α → List β) {xs : List α} {m : Nat} {x : α} (h : xs[m]? = some x) : ((xs.take (m + 1)).map f).flatten = ((xs.take m).map f).flatten ++ f x := by
  rw [take_snoc h, List.map_append, List.flatten_append]; simp
theorem flat_take_le {α β : Type} (f : α → List β) (xs : List α) (m : Nat) : ((xs.take m).map f).flatten.length ≤ (xs.map f).flatten.length := by
  conv => rhs; rw [← List.take_append_drop m xs, List.map_append, List.flatten_append, List.length_append]
  omega
section
variable {P : Program} {w : World} {K : Fg} {mg : Str → Option Value} {base : Heap}
theorem sc_continued : FnScope ["kinds", "places", "found", "way", "target", "step"] ["kinds", "places"] (defScope scontinued) := ⟨rfl, rfl, rfl, by decide +kernel, rfl, by decide +kernel, by decide +kernel⟩
theorem okcontinued {f : Addr} {fd : FuncData} (F : Fun K "continued" "continued" scontinued f fd) (b : Bi mg)  : FnOk P w K mg base CX0 1 f fd ["kinds", "places"] (spcontinued K) := by
  refine fn_ok F sc_continued 4 rfl (fun _ => rfl) (fun cdv A outer s H E hr ⟨kinds, places⟩ hp => ?_)
  dsimp only at hp ⊢
  obtain ⟨hg, hps, hz⟩ := hp
  have hlen := hg.len
  refine b_cons (s_own 2 (el_lst (s := (tP2 (tTup tI) tI)) eh_nil) ?_ sc_continued.nd)
  refine b_cons (s_forL2 3 4 (fun m G' => G' = [.vl (tTup (tTup tI)) kinds, .vl (tLst (tP2 (tTup tI) tI)) places, .ow (tP2 (tTup tI) tI) ((places.take m).map (contRow kinds)).flatten, .un, .un, .un]) _ (e_var 1) (Sub.refl _) rfl ?_ ?_ sc_continued.nd rfl)
  · rintro m way target _ hx rfl
    have hq := flat_take_le (contRow kinds) places (m + 1)
    rw [flat_take_succ _ hx, List.length_append] at hq
    rw [flat_take_succ _ hx]
    have hb := hps _ (List.mem_of_getElem? hx)
    have hz' : ((places.map (contRow kinds)).flatten).length ≤ 1000 := hz
    generalize ((places.take m).map (contRow kinds)).flatten = fs at hq ⊢
    refine b_cut (fun G' => ∃ a, G' = [.vl (tTup (tTup tI)) kinds, .vl (tLst (tP2 (tTup tI) tI)) places, .ow (tP2 (tTup tI) tI) (fs ++ contRow kinds (way, target)), .vl (tTup tI) way, .vl tI target, a]) (s_if (t_cv (e_var 4) e_int cv_lt) (fun h => ?_) (fun h => ?_)) ?_
    · have h' : target < 0 := of_decide_eq_true h
      have e1 : contRow kinds (way, target) = [(way, target)] := by unfold contRow; rw [if_pos h']
      rw [e1] at hq ⊢
      refine b_cons (s_app 2 rfl (e_p2 (e_var 3) (e_var 4)) (by simp only [List.length_cons, List.length_nil] at hq; omega) ?_)
      exact b_nil ⟨_, rfl⟩
    · have h' : ¬ target < 0 := of_decide_eq_false h
      have hrow := hg.row _ (ix_mem (xs := kinds) (i := target) (by omega) (by omega))
      have e1 : contRow kinds (way, target) = (List.range (ix kinds target).length).map fun s : Nat => (way ++ [(s : Int)], ix (ix kinds target) (s : Int)) := by unfold contRow; rw [if_neg h']
      rw [e1] at hq ⊢
      simp only [List.length_map, List.length_range] at hq
      refine b_cons (s_forR 5 (fun j G' => G' = [.vl (tTup (tTup tI)) kinds, .vl (tLst (tP2 (tTup tI) tI)) places, .ow (tP2 (tTup tI) tI) (fs ++ (List.range j).map fun s : Nat => (way ++ [(s : Int)], ix (ix kinds target) (s : Int))), .vl (tTup tI) way, .vl tI target, .un]) _ b.range (e_lenT b.len (e_ixT (e_var 0) (e_var 4) (atI_ix (by omega) (by omega)))) (by omega) (Sub.refl _) (by rw [List.range_zero, List.map_nil, List.append_nil]; rfl) ?_ ?_ sc_continued.nd rfl)
      · rintro j _ hj rfl
        refine b_cons (s_app 2 rfl (e_p2 (e_catA (e_var 3) (e_tup (eh_cons (e_var 5) eh_nil)) (by simp only [List.length_cons, List.length_nil] at hb ⊢; omega)) (e_ixT (e_ixT (e_var 0) (e_var 4) (atI_ix (by omega) (by omega))) (e_var 5) (atI_ix (by omega) (by omega)))) (by rw [List.length_append, List.length_map, List.length_range]; omega) ?_)
        refine B.weak (b_nil rfl) ?_
        rw [List.range_succ, List.map_append, ← List.append_assoc]
        exact .same (.same (.same (.same (.same (.un .nil)))))
      · rintro _ rfl
        rw [Int.toNat_natCast]
        exact b_nil ⟨_, rfl⟩
    rintro _ ⟨a, rfl⟩
    exact B.weak (b_nil rfl) (.same (.same (.same (.un (.un (.un .nil))))))
  · rintro _ rfl
    rw [List.take_length]
    refine b_freeze 2 rfl ?_
    exact b_cons (s_ret (e_var 2) (fun M v r => r))
end

def placesM (kinds : List (List Int)) (start : Int) : Nat → List (List Int × Int)
  | 0 => [([], start)]
  | d + 1 => contM kinds (placesM kinds start d)
theorem contM_mem {kinds : List (List Int)} {ps : List (List Int × Int)} {q : List Int × Int} (h : q ∈ contM kinds ps) : ∃ p ∈ ps, (p.2 < 0 ∧ q = p) ∨ (0 ≤ p.2 ∧ ∃ s : Nat, s < (ix kinds p.2).length ∧ q = (p.1 ++ [(s : Int)], ix (ix kinds p.2) (s : Int))) := by
  unfold contM at h
  obtain ⟨l, hl, hq⟩ := List.mem_flatten.mp h
  obtain ⟨p, hp, rfl⟩ := List.mem_map.mp hl
  refine ⟨p, hp, ?_⟩
  unfold contRow at hq
  split at hq
  · exact .inl ⟨by assumption, List.mem_singleton.mp hq⟩
  · obtain ⟨s, hs, rfl⟩ := List.mem_map.mp hq
    exact .inr ⟨by omega, s, List.mem_range.mp hs, rfl⟩
theorem places_ok {kinds : List (List Int)} {n e start : Int} (h : Good kinds n e) (h1 : start < kinds.length) : ∀ d, ∀ p ∈ placesM kinds start d, p.1.length ≤ d ∧ p.2 < kinds.length
  | 0, p, hp => by rw [List.mem_singleton.mp hp]; exact ⟨Nat.le_refl _, h1⟩
  | d + 1, q, hq => by
    obtain ⟨p, hp, ⟨_, rfl⟩ | ⟨h0, s, hs, rfl⟩⟩ := contM_mem hq
    · have := places_ok h h1 d _ hp
      exact ⟨by omega, this.2⟩
    · have := places_ok h h1 d _ hp
      have hr := (h.row _ (ix_mem h0 this.2)).2 _ (ix_mem (xs := ix kinds p.2) (i := (s : Int)) (by omega) (by omega))
      exact ⟨by rw [List.length_append]; simp; omega, hr.2⟩
def spfront (K : Fg) (C : Addr) : Sp := spG K (fun i : List (List Int) × Int × Int => [.vl (tBook C) i.1, .vl tI i.2.1, .vl tI i.2.2]) (fun i => Good i.1 40 20 ∧ (0 ≤ i.2.1 ∧ i.2.1 ≤ 300) ∧ (0 ≤ i.2.2 ∧ i.2.2 < i.1.length) ∧ ∀ d : Nat, (d : Int) ≤ i.2.1 → (placesM i.1 i.2.2 d).length ≤ 1000) (tTup (tTup tI)) (fun i => (placesM i.1 i.2.2 i.2.1.toNat).map fun p => p.1)
section
variable {P : Program} {w : World} {K : Fg} {mg : Str → Option Value} {base : Heap}
theorem sc_front : FnScope ["book", "depth", "start", "places", "_", "way", "target"] ["book", "depth", "start"] (defScope sfront) := ⟨rfl, rfl, rfl, by decide +kernel, rfl, by decide +kernel, by decide +kernel⟩
theorem okfront {C : Addr} (hC : Cls K C) (hna : NoAttr K C "kinds") {f : Addr} {fd : FuncData} (F : Fun K "front" "front" sfront f fd) (b : Bi mg) (Ccontinued : Fn P w K mg base CX0 1 "continued" ["kinds", "places"] (spcontinued K)) : FnOk P w K mg base CX0 2 f fd ["book", "depth", "start"] (spfront K C) := by
  refine fn_ok F sc_front 4 rfl (fun _ => rfl) (fun cdv A outer s H E hr ⟨book, depth, st0⟩ hp => ?_)
  dsimp only at hp ⊢
  obtain ⟨hg, hd, hst, hz⟩ := hp
  refine b_cons (s_own 3 (el_lst (eh_cons (e_p2 (s := tTup tI) (x := []) (e_tup eh_nil) (e_var 2)) eh_nil)) ?_ sc_front.nd)
  refine b_freeze 3 rfl ?_
  refine b_cons (s_forR 4 (fun m G' => G' = [.vl (tBook C) book, .vl tI depth, .vl tI st0, .vl (tLst (tP2 (tTup tI) tI)) (placesM book st0 m), .un, .un, .un]) _ b.range (e_var 1) (by omega) (Sub.refl _) rfl ?_ ?_ sc_front.nd rfl)
  · rintro m _ hm rfl
    refine b_cons (s_set 3 (e_call Ccontinued (hr.mono (by decide)) (_, _) (ea_cons (e_kinds (e_var 0) hC hna) (ea_cons (e_var 3) ea_nil)) (by
      refine ⟨hg, fun p hp => ?_, hz (m + 1) (by omega)⟩
      have := places_ok hg hst.2 m p hp
      exact ⟨by omega, this.2⟩)) ?_ sc_front.nd)
    exact B.weak (b_nil rfl) (.same (.same (.same (.same (.un (.un (.un .nil)))))))
  · rintro _ rfl
    have hl := hz depth.toNat (by omega)
    exact b_cons (s_ret (e_tupL b.tuple (EL.toE (el_lc (lc_L2 (own := [("way", 5), ("target", 6)]) (e_var 3) 5 6 (fun s0 H C cl fp m x y hx => (e_var 5)) (blkOk_by (N := ["book", "depth", "start", "places", "_", "way", "target"]) (sc := defScope sfront) (by decide +kernel)) (by omega) rfl (fun _ _ _ _ _ => pg_name sc_front.nd rfl (by first | exact Or.inl rfl | exact Or.inr rfl)) (fun _ _ _ _ _ => pg_name sc_front.nd rfl (by first | exact Or.inl rfl | exact Or.inr rfl))) rfl sc_front.nd))) (fun M v r => r))
end

section
variable {P : Program} {w : World} {K : Fg} {mg : Str → Option Value} {base : Heap}
theorem sc_law_whole : FnScope ["value"] ["value"] (defScope s_law_whole) := ⟨rfl, rfl, rfl, by decide +kernel, rfl, by decide +kernel, by decide +kernel⟩
theorem ok_law_whole {f : Addr} {fd : FuncData} (F : Fun K "_law_whole" "_law_whole" s_law_whole f fd) (b : Bi mg) : FnOk P w K mg base CX0 1 f fd ["value"] (spWhole K) := by
  refine fn_ok F sc_law_whole 0 rfl (fun _ => rfl) (fun cdv A outer s H E hr d hp => ?_)
  refine b_cons (s_ret (e_and (e_isD (dd := d) b.isinstance (e_var 0) (e_Tint b.int) (fun _ _ r => r) (kbI d)) (fun _ => e_one (e_not (e_isD (dd := d) b.isinstance (e_var 0) (e_Tbool b.bool) (fun _ _ r => r) (kbB d))))) (fun M v r => ?_))
  exact ret_is r (wholeD_eq d)
end

def walkM (kinds : List (List Int)) (first : Int) (way : List Int) : Int := way.foldl (fun t s => ix (ix kinds t) s) first
def agStep (kinds : List (List Int)) (first : Int) (found : List Int) (way : List Int) : List Int :=
  let k := if -(walkM kinds first way) > 0 then -(walkM kinds first way) else 0
  found.set k.toNat (ix found k + 1)
structure AgOne (kinds : List (List Int)) (first deep : Int) (way : List Int) : Prop where
  len : (way.length : Int) ≤ deep
  at' : ∀ (j : Nat) (x : Int), way[j]? = some x → (0 ≤ walkM kinds first (way.take j) ∧ walkM kinds first (way.take j) < kinds.length) ∧ 0 ≤ x ∧ x < (ix kinds (walkM kinds first (way.take j))).length
  fin : -3 ≤ walkM kinds first way ∧ (walkM kinds first way < 0 ∨ (way.length : Int) = deep)
structure AgOk (kinds : List (List Int)) (first deep : Int) (ways : List (List Int)) (due : List Int) : Prop where
  len : (ways.length : Int) = due.sum
  one : ∀ way ∈ ways, AgOne kinds first deep way
  due : ways.foldl (agStep kinds first) [0, 0, 0, 0] = due
theorem agStep_len (kinds : List (List Int)) (first : Int) : ∀ (ways : List (List Int)) (s : List Int), (ways.foldl (agStep kinds first) s).length = s.length
  | [], s => rfl
  | w :: ws, s => by rw [List.foldl_cons, agStep_len kinds first ws]; unfold agStep; simp
def sp_law_agree (K : Fg) : Sp := spG K (fun i : List (List Int) × Int × Int × List (List Int) × List Int => [.vl (tTup (tTup tI)) i.1, .vl tI i.2.1, .vl tI i.2.2.1, .vl (tTup (tTup tI)) i.2.2.2.1, .vl (tLst tI) i.2.2.2.2]) (fun i => AgOk i.1 i.2.1 i.2.2.1 i.2.2.2.1 i.2.2.2.2) tB (fun i => true)
section
variable {P : Program} {w : World} {K : Fg} {mg : Str → Option Value} {base : Heap}
theorem sc_law_agree : FnScope ["kinds", "first", "deep", "ways", "due", "found", "way", "target", "step"] ["kinds", "first", "deep", "ways", "due"] (defScope s_law_agree) := ⟨rfl, rfl, rfl, by decide +kernel, rfl, by decide +kernel, by decide +kernel⟩
theorem ok_law_agree {f : Addr} {fd : FuncData} (F : Fun K "_law_agree" "_law_agree" s_law_agree f fd) (b : Bi mg) (C_law_whole : Fn P w K mg base CX0 1 "_law_whole" ["value"] (spWhole K)) : FnOk P w K mg base CX0 2 f fd ["kinds", "first", "deep", "ways", "due"] (sp_law_agree K) := by
  refine fn_ok F sc_law_agree 4 rfl (fun _ => rfl) (fun cdv A outer s H E hr ⟨kinds, first, deep, ways, due⟩ hp => ?_)
  dsimp only at hp ⊢
  obtain ⟨hlen, hone, hdue⟩ := hp
  refine b_cons (s_if (TW.toT (w_or (t_not (t_val (e_isD (dd := dTab ways) b.isinstance (e_var 3) (e_Ttuple b.tuple) (fun _ _ r => dp_tab r) (kbT _)))) (fun h => (w_or1 (t_cv (e_lenT b.len (e_var 3)) (e_sum rfl b.sum (e_var 4)) cv_neI))))) (fun h1 => ?_) (fun h1 => ?_))
  · have h1p := h1; simp [isTD, dTab, hlen] at h1p
  · refine b_nil ?_
    refine b_cons (s_own 5 (el_lst (eh_cons e_int (eh_cons e_int (eh_cons e_int (eh_cons e_int eh_nil))))) ?_ sc_law_agree.nd)
    refine b_cons (s_forT 6 (fun m G' => G' = [.vl (tTup (tTup tI)) kinds, .vl tI first, .vl tI deep, .vl (tTup (tTup tI)) ways, .vl (tLst tI) due, .ow tI ((ways.take m).foldl (agStep kinds first) [0, 0, 0, 0]), .un, .un, .un]) _ (e_var 3) (Sub.refl _) rfl ?_ ?_ sc_law_agree.nd rfl)
    · rintro m way _ hx rfl
      obtain ⟨q1, q2, q3, q4⟩ := hone way (List.mem_of_getElem? hx)
      rw [foldl_take_succ _ _ hx]
      have hfl := agStep_len kinds first (ways.take m) [0, 0, 0, 0]
      simp only [List.length_cons, List.length_nil] at hfl
      generalize (ways.take m).foldl (agStep kinds first) [0, 0, 0, 0] = found at hfl ⊢
      refine b_cons (s_if (TW.toT (w_or (t_not (t_val (e_isD (dd := dRow way) b.isinstance (e_var 6) (e_Ttuple b.tuple) (fun _ _ r => dp_row r) (kbT _)))) (fun h => (w_or1 (t_cv (e_lenT b.len (e_var 6)) (e_var 2) cv_gt))))) (fun h2 => ?_) (fun h2 => ?_))
      · have h2p := h2; simp [isTD, dRow] at h2p; omega
      · refine b_nil ?_
        refine b_cons (s_set 7 (e_var 1) ?_ sc_law_agree.nd)
        refine b_cons (s_forT 8 (fun j G' => G' = [.vl (tTup (tTup tI)) kinds, .vl tI first, .vl tI deep, .vl (tTup (tTup tI)) ways, .vl (tLst tI) due, .ow tI found, .vl (tTup tI) way, .vl tI (walkM kinds first (way.take j)), .un]) _ (e_var 6) (Sub.refl _) rfl ?_ ?_ sc_law_agree.nd rfl)
        · rintro j x _ hx rfl
          obtain ⟨p1, p2, p3⟩ := q2 j x hx
          have hw : walkM kinds first (way.take (j + 1)) = ix (ix kinds (walkM kinds first (way.take j))) x := by
            unfold walkM; rw [foldl_take_succ _ _ hx]
          rw [hw]
          generalize walkM kinds first (way.take j) = t0 at p1 p3 ⊢
          refine b_cons (s_if (TW.toT (w_or (t_cv (e_var 7) e_int cv_lt) (fun h => (w_or (t_not (t_val (e_call C_law_whole (hr.mono (by decide)) _ (ea_cons (TL.E.as (t := tD) (y := .int _) (e_var 8) (fun _ _ r => dp_I r)) ea_nil) trivial))) (fun h => (w_or (t_cv (e_var 8) e_int cv_lt) (fun h => (w_or1 (t_cv (e_var 8) (e_lenT b.len (e_ixT (e_var 0) (e_var 7) (atI_ix (by omega) (by omega)))) cv_ge))))))))) (fun h3 => ?_) (fun h3 => ?_))
          · have h3p := h3; simp [wholeD] at h3p; omega
          · refine b_nil ?_
            refine b_cons (s_set 7 (e_ixT (e_ixT (e_var 0) (e_var 7) (atI_ix (by omega) (by omega))) (e_var 8) (atI_ix (by omega) (by omega))) ?_ sc_law_agree.nd)
            exact B.weak (b_nil rfl) (.same (.same (.same (.same (.same (.same (.same (.same (.un .nil)))))))))
        · rintro _ rfl
          rw [List.take_length]
          refine b_cons (s_if (TW.toT (w_and (t_cv (e_var 7) e_int cv_ge) (fun h => (w_and1 (t_cv (e_lenT b.len (e_var 6)) (e_var 2) cv_lt))))) (fun h4 => ?_) (fun h4 => ?_))
          · have h4p := h4; simp at h4p; omega
          · refine b_nil ?_
            have hk : 0 ≤ (if -(walkM kinds first way) > 0 then -(walkM kinds first way) else 0) ∧ (if -(walkM kinds first way) > 0 then -(walkM kinds first way) else 0) < (found.length : Int) := by split <;> omega
            refine b_cons (s_seti 5 (m := (if -(walkM kinds first way) > 0 then -(walkM kinds first way) else 0).toNat) rfl (e_read 5 rfl imm_I (e_add (e_ixL (e_var 5) (e_max rfl b.max e_int (e_neg (e_var 7))) (atI_ix (by omega) (by omega))) e_int)) (e_max rfl b.max e_int (e_neg (e_var 7))) (ixN_pos hk.1 hk.2) ?_)
            exact B.weak (b_nil rfl) (.same (.same (.same (.same (.same (.same (.un (.un (.un .nil)))))))))
    · rintro _ rfl
      rw [List.take_length, hdue]
      refine b_cons (s_ret (e_read 5 rfl imm_B (e_cv (e_var 5) (e_var 4) (cv_eqD hr (sh_rowL _) (sh_rowL _) (fun _ _ r => dp_rowL r) (fun _ _ r => dp_rowL r)))) (fun M v r => ?_))
      exact ret_is r (by rw [eqv_rowL]; simp)
end

/-! the plain law: forward counts and backward numbers -/
def dot : List Int → (Nat → Int) → Int
  | [], _ => 0
  | x :: xs, g => x * g 0 + dot xs fun i => g (i + 1)
theorem dot_set : ∀ (F : List Int) (g : Nat → Int) (i : Nat) (c : Int), i < F.length → dot (F.set i (F.getD i 0 + c)) g = dot F g + c * g i
  | [], _, i, _, h => absurd h (Nat.not_lt_zero i)
  | x :: xs, g, 0, c, _ => by simp only [List.set_cons_zero, dot, List.getD_cons_zero, Int.add_mul]; omega
  | x :: xs, g, i + 1, c, h => by
    have := dot_set xs (fun i => g (i + 1)) i c (by simpa using h)
    simp only [List.set_cons_succ, dot, List.getD_cons_succ]
    rw [this]; omega
theorem ix_getD {xs : List Int} {i : Int} (h0 : 0 ≤ i) (h1 : i < xs.length) : ix xs i = xs.getD i.toNat 0 := by
  have := getElem?_ix h0 h1
  rw [List.getD_eq_getElem?_getD, this]; rfl
theorem dot_zero : ∀ (n : Nat) (g : Nat → Int), dot (List.replicate n 0) g = 0
  | 0, g => rfl
  | n + 1, g => by rw [List.replicate_succ, dot, dot_zero n]; omega
theorem dot_const_one : ∀ (F : List Int) (g : Nat → Int), (∀ i < F.length, g i = 1) → dot F g = F.sum
  | [], _, _ => rfl
  | x :: xs, g, h => by
    rw [dot, dot_const_one xs _ (fun i hi => h (i + 1) (by simpa using hi)), h 0 (by simp), List.sum_cons]; omega
theorem dot_const_zero : ∀ (F : List Int) (g : Nat → Int), (∀ i < F.length, g i = 0) → dot F g = 0
  | [], _, _ => rfl
  | x :: xs, g, h => by
    rw [dot, dot_const_zero xs _ (fun i hi => h (i + 1) (by simpa using hi)), h 0 (by simp)]; omega
theorem dot_congr : ∀ (F : List Int) (g g' : Nat → Int), (∀ i < F.length, g i = g' i) → dot F g = dot F g'
  | [], _, _, _ => rfl
  | x :: xs, g, g', h => by
    rw [dot, dot, dot_congr xs _ _ (fun i hi => h (i + 1) (by simpa using hi)), h 0 (by simp)]
/-- what a target weighs -/
def tv (g h : Nat → Int) (t : Int) : Int := if 0 ≤ t then g t.toNat else h (-1 - t).toNat
def phi (g h : Nat → Int) (z : List Int × List Int) : Int := dot z.1 g + dot z.2 h
theorem phi_stT {g h : Nat → Int} {c : Int} {z : List Int × List Int} {t : Int} (h0 : -3 ≤ t ∧ t < z.1.length) (h1 : z.2.length = 3) : phi g h (stT c z t) = phi g h z + c * tv g h t := by
  unfold stT tv phi
  split
  · rw [ix_getD (by omega) (by omega), dot_set _ _ _ _ (by omega)]; dsimp only; omega
  · rw [ix_getD (by omega) (by omega), dot_set _ _ _ _ (by omega)]; dsimp only; omega
theorem phi_stTs {g h : Nat → Int} {c : Int} : ∀ {ts : List Int} {z : List Int × List Int}, (∀ t ∈ ts, -3 ≤ t ∧ t < z.1.length) → z.2.length = 3 → phi g h (ts.foldl (stT c) z) = phi g h z + c * (ts.map (tv g h)).sum
  | [], z, _, _ => by simp
  | t :: ts, z, h0, h1 => by
    have l := stT_len c z t
    rw [List.foldl_cons, phi_stTs (fun t' h' => by rw [l.1]; exact h0 t' (List.mem_cons_of_mem _ h')) (by rw [l.2]; exact h1), phi_stT (h0 t (List.mem_cons_self ..)) h1, List.map_cons, List.sum_cons, Int.mul_add]
    omega
def rowV (kinds : List (List Int)) (g h : Nat → Int) (k : Nat) : Int := ((ix kinds (k : Int)).map (tv g h)).sum
theorem phi_stK {kinds : List (List Int)} {counts : List Int} {g h : Nat → Int} {z : List Int × List Int} {k : Nat} {n e : Int} (hg : Good kinds n e) (hk : k < kinds.length) (hz : z.1.length = kinds.length) (h1 : z.2.length = 3) (hc : 0 ≤ ix counts (k : Int)) : phi g h (stK kinds counts z k) = phi g h z + ix counts (k : Int) * rowV kinds g h k := by
  unfold stK rowV
  have hr := hg.row _ (ix_mem (xs := kinds) (i := (k : Int)) (by omega) (by omega))
  split
  · exact phi_stTs (fun t ht => by rw [hz]; exact hr.2 t ht) h1
  · rename_i h
    have : ix counts (k : Int) = 0 := by simp at h; omega
    rw [this]; omega
theorem phi_next {kinds : List (List Int)} {counts : List Int} {g h : Nat → Int} {n e : Int} (hg : Good kinds n e) (hl : counts.length = kinds.length) (hc : ∀ x ∈ counts, 0 ≤ x) : phi g h (nextM kinds counts) = dot counts (rowV kinds g h) := by
  have key : ∀ m ≤ kinds.length, phi g h ((List.range m).foldl (stK kinds counts) (List.replicate kinds.length 0, [0, 0, 0])) = dot (counts.take m) (rowV kinds g h) := by
    intro m
    induction m with
    | zero => intro _; simp [phi, dot, dot_zero]
    | succ m ih =>
      intro hm
      have lz := stKs_len kinds counts (List.range m) (List.replicate kinds.length 0, [0, 0, 0])
      simp only [List.length_replicate, List.length_cons, List.length_nil] at lz
      have hx := getElem?_ix (xs := counts) (i := (m : Int)) (by omega) (by omega)
      rw [Int.toNat_natCast] at hx
      rw [foldl_range_succ, phi_stK hg (by omega) lz.1 lz.2 (hc _ (ix_mem (by omega) (by omega))), ih (by omega), take_snoc hx]
      have dot_app : ∀ (xs : List Int) (y : Int) (g : Nat → Int), dot (xs ++ [y]) g = dot xs g + y * g xs.length := by
        intro xs
        induction xs with
        | nil => intro y g; simp [dot]
        | cons x xs ih => intro y g; simp only [List.cons_append, dot, List.length_cons, ih]; omega
      rw [dot_app, List.length_take, show min m counts.length = m by omega]
  have := key kinds.length (Nat.le_refl _)
  rw [← hl, List.take_length] at this
  unfold nextM
  rw [← hl]; exact this
theorem set_nonneg {xs : List Int} (h : ∀ x ∈ xs, 0 ≤ x) (i : Nat) {c : Int} (hc : 0 ≤ c) : ∀ x ∈ xs.set i c, 0 ≤ x := fun x hx => by
  rcases List.mem_or_eq_of_mem_set hx with z | z
  · exact h x z
  · omega
theorem ix_nonneg {xs : List Int} (h : ∀ x ∈ xs, 0 ≤ x) (i : Int) : 0 ≤ ix xs i := by
  unfold ix
  cases hh : atI xs i with
  | none => exact Int.le_refl _
  | some x =>
    unfold atI at hh
    obtain ⟨j, _, hj⟩ := Option.bind_eq_some_iff.mp hh
    exact h x (List.mem_of_getElem? hj)
theorem stT_nonneg {c : Int} (hc : 0 ≤ c) {z : List Int × List Int} (t : Int) (h : (∀ x ∈ z.1, 0 ≤ x)) : ∀ x ∈ (stT c z t).1, 0 ≤ x := by
  unfold stT; split
  · exact set_nonneg h _ (by have := ix_nonneg h t; omega)
  · exact h
theorem stTs_nonneg {c : Int} (hc : 0 ≤ c) : ∀ (ts : List Int) (z : List Int × List Int), (∀ x ∈ z.1, 0 ≤ x) → ∀ x ∈ (ts.foldl (stT c) z).1, 0 ≤ x
  | [], z, h => h
  | t :: ts, z, h => stTs_nonneg hc ts _ (stT_nonneg hc t h)
theorem next_nonneg {kinds : List (List Int)} {counts : List Int} : ∀ x ∈ (nextM kinds counts).1, 0 ≤ x := by
  have key : ∀ (ks : List Nat) (z : List Int × List Int), (∀ x ∈ z.1, 0 ≤ x) → ∀ x ∈ (ks.foldl (stK kinds counts) z).1, 0 ≤ x := by
    intro ks
    induction ks with
    | nil => intro z h; exact h
    | cons k ks ih =>
      intro z h
      refine ih _ ?_
      unfold stK; split
      · rename_i hh; exact stTs_nonneg (by simp at hh; omega) _ _ h
      · exact h
  exact key _ _ fun x hx => by rw [List.eq_of_mem_replicate hx]; omega
theorem front_nonneg {kinds : List (List Int)} {st0 : Int} : ∀ d, ∀ x ∈ (frontM kinds st0 d).1, 0 ≤ x
  | 0, x, hx => by
    exact set_nonneg (fun x hx => by rw [List.eq_of_mem_replicate hx]; omega) _ (by omega) x hx
  | d + 1, x, hx => next_nonneg x hx
/-! the backward table -/
def vl (T : List (List Int)) (m : Nat) (t : Int) : Int := tv (fun k => ix (ix T (k : Int)) (m : Int)) (fun j => if m = j + 1 then 1 else 0) t
theorem ix_set {xs : List Int} {i j : Nat} {c : Int} (hi : i < xs.length) (hj : j < xs.length) : ix (xs.set i c) (j : Int) = if i = j then c else ix xs (j : Int) := by
  rw [ix_getD (by omega) (by rw [List.length_set]; omega), ix_getD (xs := xs) (by omega) (by omega), Int.toNat_natCast, List.getD_eq_getElem?_getD, List.getD_eq_getElem?_getD, List.getElem?_set]
  split
  · first | rfl | (rw [if_pos hi]; rfl)
  · rfl
theorem ix_nAdd {T : List (List Int)} {sums : List Int} {t : Int} {m : Nat} (hl : sums.length = 4) (hm : m < 4) (ht : -3 ≤ t) : ix (nAdd T sums t) (m : Int) = ix sums (m : Int) + vl T m t := by
  unfold nAdd vl tv
  by_cases h : t < 0
  · rw [if_pos h, if_neg (show ¬ 0 ≤ t by omega), ix_set (by omega) (by omega)]; dsimp only
    by_cases q : (-t).toNat = m
    · rw [if_pos q, if_pos (by omega), show ((m : Nat) : Int) = -t by omega]
    · rw [if_neg q, if_neg (by omega)]; omega
  · rw [if_neg h, if_pos (show 0 ≤ t by omega)]; dsimp only; rw [show ((t.toNat : Nat) : Int) = t by omega]
    have key : ∀ q, q ≤ 4 → ix ((List.range q).foldl (fun s (m : Nat) => s.set m (ix s (m : Int) + ix (ix T t) (m : Int))) sums) (m : Int) = ix sums (m : Int) + (if m < q then ix (ix T t) (m : Int) else 0) := by
      intro q
      induction q with
      | zero => intro _; simp
      | succ q ih =>
        intro hq
        have ih := ih (by omega)
        have l := sets_len (ix T t) (List.range q) sums
        rw [foldl_range_succ]
        generalize (List.range q).foldl (fun s (m : Nat) => s.set m (ix s (m : Int) + ix (ix T t) (m : Int))) sums = ss at ih l ⊢
        rw [ix_set (by omega) (by omega)]
        by_cases z : q = m
        · subst z
          rw [if_pos rfl, if_pos (by omega), ih, if_neg (by omega)]; omega
        · rw [if_neg z, ih]
          by_cases z2 : m < q
          · rw [if_pos z2, if_pos (by omega)]
          · rw [if_neg z2, if_neg (by omega)]
    rw [key 4 (by omega), if_pos hm]
theorem ix_nRow {T : List (List Int)} {m : Nat} (hm : m < 4) : ∀ {kind : List Int} {sums : List Int}, sums.length = 4 → (∀ t ∈ kind, -3 ≤ t) → ix (kind.foldl (nAdd T) sums) (m : Int) = ix sums (m : Int) + (kind.map (vl T m)).sum
  | [], sums, _, _ => by simp
  | t :: ts, sums, hl, ht => by
    rw [List.foldl_cons, ix_nRow hm (by rw [nAdd_len]; exact hl) (fun t' h' => ht t' (List.mem_cons_of_mem _ h')), ix_nAdd hl hm (ht t (List.mem_cons_self ..)), List.map_cons, List.sum_cons]
    omega
theorem ix_map {α β : Type} [Inhabited α] [Inhabited β] {f : α → β} {xs : List α} {i : Int} (h0 : 0 ≤ i) (h1 : i < xs.length) : ix (xs.map f) i = f (ix xs i) := by
  have a := getElem?_ix (xs := xs) h0 h1
  have b := getElem?_ix (xs := xs.map f) h0 (by rw [List.length_map]; exact h1)
  rw [List.getElem?_map, a] at b
  exact (Option.some.inj b).symm
theorem num_zero {kinds : List (List Int)} {k : Int} (h0 : 0 ≤ k) (h1 : k < kinds.length) : ix (numM kinds 0) k = [1, 0, 0, 0] := by
  unfold numM; rw [ix_map h0 h1]
theorem num_succ {kinds : List (List Int)} {n e k : Int} {m d : Nat} (hg : Good kinds n e) (h0 : 0 ≤ k) (h1 : k < kinds.length) (hm : m < 4) : ix (ix (numM kinds (d + 1)) k) (m : Int) = ((ix kinds k).map (vl (numM kinds d) m)).sum := by
  rw [show numM kinds (d + 1) = kinds.map (nRow (numM kinds d)) from rfl, ix_map h0 h1]
  unfold nRow
  rw [ix_nRow hm rfl (fun t ht => ((hg.row _ (ix_mem h0 h1)).2 t ht).1)]
  have : ix ([0, 0, 0, 0] : List Int) (m : Int) = 0 := by
    have : m = 0 ∨ m = 1 ∨ m = 2 ∨ m = 3 := by omega
    rcases this with rfl | rfl | rfl | rfl <;> rfl
  rw [this]; omega
theorem front_inv {kinds : List (List Int)} {n e st0 : Int} {m : Nat} (hg : Good kinds n e) (h0 : 0 ≤ st0) (h1 : st0 < kinds.length) (hm : m < 4) : ∀ (d r D : Nat), d + r = D →
    dot (frontM kinds st0 d).1 (fun k => ix (ix (numM kinds r) (k : Int)) (m : Int)) + dot (frontM kinds st0 d).2 (fun j => if m = j + 1 then 1 else 0) = ix (ix (numM kinds D) st0) (m : Int) := by
  intro d
  induction d with
  | zero =>
    intro r D hD
    have : r = D := by omega
    subst this
    have e1 : (frontM kinds st0 0).1 = (List.replicate kinds.length 0).set st0.toNat ((List.replicate kinds.length (0 : Int)).getD st0.toNat 0 + 1) := by
      show (List.replicate kinds.length 0).set st0.toNat 1 = _
      rw [List.getD_eq_getElem?_getD, List.getElem?_replicate, if_pos (by omega)]; rfl
    rw [e1, dot_set _ _ _ _ (by rw [List.length_replicate]; omega), dot_zero]
    have e2 : (frontM kinds st0 0).2 = [0, 0, 0] := rfl
    rw [e2, show ((st0.toNat : Nat) : Int) = st0 by omega]
    simp [dot]
  | succ d ih =>
    intro r D hD
    have ih := ih (r + 1) D (by omega)
    have hl := frontM_len kinds st0 d
    have hn := nextM_len kinds (frontM kinds st0 d).1
    have hp := phi_next (g := fun k => ix (ix (numM kinds r) (k : Int)) (m : Int)) (h := fun j => if m = j + 1 then 1 else 0) hg hl.1 (front_nonneg d)
    rw [← ih]
    have e1 : dot (frontM kinds st0 d).1 (fun k => ix (ix (numM kinds (r + 1)) (k : Int)) (m : Int)) = dot (frontM kinds st0 d).1 (rowV kinds (fun k => ix (ix (numM kinds r) (k : Int)) (m : Int)) (fun j => if m = j + 1 then 1 else 0)) := by
      apply dot_congr
      intro i hi
      rw [num_succ hg (by omega) (by omega) hm]; rfl
    rw [e1, ← hp]
    unfold phi
    have e2 : (frontM kinds st0 (d + 1)).1 = (nextM kinds (frontM kinds st0 d).1).1 := rfl
    have e3 : (frontM kinds st0 (d + 1)).2 = [ix (frontM kinds st0 d).2 0 + ix (nextM kinds (frontM kinds st0 d).1).2 0, ix (frontM kinds st0 d).2 1 + ix (nextM kinds (frontM kinds st0 d).1).2 1, ix (frontM kinds st0 d).2 2 + ix (nextM kinds (frontM kinds st0 d).1).2 2] := rfl
    have three : ∀ xs : List Int, xs.length = 3 → ∀ g : Nat → Int, dot xs g = ix xs 0 * g 0 + ix xs 1 * g 1 + ix xs 2 * g 2 := by
      intro xs hx g
      match xs, hx with
      | [a, b, c], _ => simp [dot]; show _ = a * g 0 + b * g 1 + c * g 2; omega
    rw [e2, e3, three _ hl.2, three _ hn.2]
    simp only [dot, Int.add_mul, Nat.zero_add, Nat.reduceAdd]
    omega
theorem four_ext {xs ys : List Int} (h1 : xs.length = 4) (h2 : ys.length = 4) (h : ∀ m : Nat, m < 4 → ix xs (m : Int) = ix ys (m : Int)) : xs = ys := by
  match xs, h1, ys, h2 with
  | [a, b, c, d], _, [a', b', c', d'], _ =>
    have q0 : a = a' := h 0 (by omega)
    have q1 : b = b' := h 1 (by omega)
    have q2 : c = c' := h 2 (by omega)
    have q3 : d = d' := h 3 (by omega)
    rw [q0, q1, q2, q3]
theorem count_is {kinds : List (List Int)} {n e st0 : Int} (hg : Good kinds n e) (h0 : 0 ≤ st0) (h1 : st0 < kinds.length) (D : Nat) :
    [(frontM kinds st0 D).1.sum, ix (frontM kinds st0 D).2 0, ix (frontM kinds st0 D).2 1, ix (frontM kinds st0 D).2 2] = ix (numM kinds D) st0 := by
  have hl := frontM_len kinds st0 D
  refine four_ext rfl (numM_row kinds D _ (ix_mem h0 (by rw [numM_len]; exact h1))) fun m hm => ?_
  have := front_inv hg h0 h1 hm D 0 D rfl
  rw [← this]
  have hz : ∀ i, i < (frontM kinds st0 D).1.length → ix (ix (numM kinds 0) (i : Int)) (m : Int) = if m = 0 then 1 else 0 := by
    intro i hi
    rw [num_zero (by omega) (by omega)]
    have : m = 0 ∨ m = 1 ∨ m = 2 ∨ m = 3 := by omega
    rcases this with rfl | rfl | rfl | rfl <;> rfl
  have three : ∀ xs : List Int, xs.length = 3 → ∀ g : Nat → Int, dot xs g = ix xs 0 * g 0 + ix xs 1 * g 1 + ix xs 2 * g 2 := by
    intro xs hx g
    match xs, hx with
    | [a, b, c], _ => simp [dot]; show _ = a * g 0 + b * g 1 + c * g 2; omega
  rw [three _ hl.2]
  have : m = 0 ∨ m = 1 ∨ m = 2 ∨ m = 3 := by omega
  rcases this with rfl | rfl | rfl | rfl
  · rw [dot_const_one _ _ (fun i hi => by rw [hz i hi]; rfl)]
    show (frontM kinds st0 D).1.sum = _; simp
  · rw [dot_const_zero _ _ (fun i hi => by rw [hz i hi]; rfl)]
    show ix (frontM kinds st0 D).2 0 = _; simp
  · rw [dot_const_zero _ _ (fun i hi => by rw [hz i hi]; rfl)]
    show ix (frontM kinds st0 D).2 1 = _; simp
  · rw [dot_const_zero _ _ (fun i hi => by rw [hz i hi]; rfl)]
    show ix (frontM kinds st0 D).2 2 = _; simp
/-! the front's list -/
def lam (kinds : List (List Int)) (m r : Nat) (ps : List (List Int × Int)) : Int := (ps.map fun p => vl (numM kinds r) m p.2).sum
theorem lam_nil {kinds : List (List Int)} {m r : Nat} : lam kinds m r [] = 0 := rfl
theorem lam_cons {kinds : List (List Int)} {m r : Nat} {p : List Int × Int} {ps : List (List Int × Int)} : lam kinds m r (p :: ps) = vl (numM kinds r) m p.2 + lam kinds m r ps := by
  unfold lam; rw [List.map_cons, List.sum_cons]
theorem lam_app {kinds : List (List Int)} {m r : Nat} : ∀ (ps qs : List (List Int × Int)), lam kinds m r (ps ++ qs) = lam kinds m r ps + lam kinds m r qs
  | [], qs => by rw [List.nil_append, lam_nil]; omega
  | p :: ps, qs => by rw [List.cons_append, lam_cons, lam_cons, lam_app ps qs]; omega
theorem range_ix {α : Type} [Inhabited α] (xs : List α) : (List.range xs.length).map (fun s : Nat => ix xs (s : Int)) = xs := by
  apply List.ext_getElem?
  intro i
  rw [List.getElem?_map]
  by_cases h : i < xs.length
  · rw [List.getElem?_range h]
    have := getElem?_ix (xs := xs) (i := (i : Int)) (by omega) (by omega)
    rw [Int.toNat_natCast] at this
    rw [this]; rfl
  · rw [List.getElem?_eq_none (by rw [List.length_range]; omega), List.getElem?_eq_none (by omega)]; rfl
theorem lam_cont {kinds : List (List Int)} {n e : Int} {m r : Nat} (hg : Good kinds n e) (hm : m < 4) : ∀ (ps : List (List Int × Int)), (∀ p ∈ ps, p.2 < kinds.length) → lam kinds m r (contM kinds ps) = lam kinds m (r + 1) ps
  | [], _ => rfl
  | p :: ps, h => by
    have e1 : contM kinds (p :: ps) = contRow kinds p ++ contM kinds ps := rfl
    rw [e1, lam_app, lam_cons, lam_cont hg hm ps (fun q hq => h q (List.mem_cons_of_mem _ hq))]
    have hp := h p (List.mem_cons_self ..)
    have : lam kinds m r (contRow kinds p) = vl (numM kinds (r + 1)) m p.2 := by
      unfold contRow
      by_cases z : p.2 < 0
      · rw [if_pos z, lam_cons, lam_nil]
        unfold vl tv
        rw [if_neg (by omega), if_neg (by omega)]; omega
      · rw [if_neg z]
        unfold lam
        rw [List.map_map]
        have e2 : vl (numM kinds (r + 1)) m p.2 = ix (ix (numM kinds (r + 1)) p.2) (m : Int) := by
          unfold vl tv
          rw [if_pos (by omega)]; dsimp only; rw [show ((p.2.toNat : Nat) : Int) = p.2 by omega]
        rw [e2, num_succ hg (by omega) hp hm]
        conv => rhs; rw [← range_ix (ix kinds p.2)]
        rw [List.map_map]; rfl
    omega
theorem lam_places {kinds : List (List Int)} {n e st0 : Int} {m : Nat} (hg : Good kinds n e) (hm : m < 4) (h0 : 0 ≤ st0) (h1 : st0 < kinds.length) : ∀ (d r D : Nat), d + r = D → lam kinds m r (placesM kinds st0 d) = ix (ix (numM kinds D) st0) (m : Int)
  | 0, r, D, hD => by
    have : r = D := by omega
    subst this
    show lam kinds m r [([], st0)] = _
    rw [lam_cons, lam_nil]
    unfold vl tv
    rw [if_pos h0]; dsimp only; rw [show ((st0.toNat : Nat) : Int) = st0 by omega]; omega
  | d + 1, r, D, hD => by
    show lam kinds m r (contM kinds (placesM kinds st0 d)) = _
    rw [lam_cont hg hm _ (fun p hp => (places_ok hg h1 d p hp).2), lam_places hg hm h0 h1 d (r + 1) D (by omega)]
theorem places_low {kinds : List (List Int)} {n e st0 : Int} (hg : Good kinds n e) (h0 : 0 ≤ st0) : ∀ d, ∀ p ∈ placesM kinds st0 d, -3 ≤ p.2
  | 0, p, hp => by rw [List.mem_singleton.mp hp]; show -3 ≤ st0; omega
  | d + 1, q, hq => by
    obtain ⟨p, hp, ⟨_, rfl⟩ | ⟨h0', s, hs, rfl⟩⟩ := contM_mem hq
    · exact places_low hg h0 d _ hp
    · by_cases hk : p.2 < kinds.length
      · exact ((hg.row _ (ix_mem h0' hk)).2 _ (ix_mem (xs := ix kinds p.2) (i := (s : Int)) (by omega) (by omega))).1
      · exfalso
        have : ix kinds p.2 = [] := by
          unfold ix atI ixN
          rw [if_pos h0', if_neg hk]; rfl
        rw [this] at hs; exact Nat.not_lt_zero _ hs
/-- which of the four a target is -/
def cls4 (t : Int) (m : Nat) : Int := if t < 0 then (if (m : Int) = -t then 1 else 0) else if m = 0 then 1 else 0
theorem vl0 {kinds : List (List Int)} {t : Int} {m : Nat} (hm : m < 4) (ht : t < kinds.length) : vl (numM kinds 0) m t = cls4 t m := by
  unfold vl tv cls4
  by_cases h : t < 0
  · rw [if_neg (by omega), if_pos h]; dsimp only
    by_cases z : (m : Int) = -t
    · rw [if_pos (by omega), if_pos z]
    · rw [if_neg (by omega), if_neg z]
  · rw [if_pos (by omega), if_neg h]; dsimp only
    rw [show ((t.toNat : Nat) : Int) = t by omega, num_zero (by omega) ht]
    have : m = 0 ∨ m = 1 ∨ m = 2 ∨ m = 3 := by omega
    rcases this with rfl | rfl | rfl | rfl <;> rfl
theorem cls_sum {t : Int} (h : -3 ≤ t) : cls4 t 0 + cls4 t 1 + cls4 t 2 + cls4 t 3 = 1 := by
  unfold cls4
  by_cases h' : t < 0
  · have : t = -1 ∨ t = -2 ∨ t = -3 := by omega
    rcases this with rfl | rfl | rfl <;> rfl
  · simp only [if_neg h']; rfl
theorem sum4 {xs : List Int} (h : xs.length = 4) : xs.sum = ix xs 0 + ix xs 1 + ix xs 2 + ix xs 3 := by
  match xs, h with
  | [a, b, c, d], _ => show _ = a + b + c + d; simp; omega
theorem places_len {kinds : List (List Int)} {n e st0 : Int} (hg : Good kinds n e) (h0 : 0 ≤ st0) (h1 : st0 < kinds.length) (d : Nat) : ((placesM kinds st0 d).length : Int) = (ix (numM kinds d) st0).sum := by
  rw [sum4 (numM_row kinds d _ (ix_mem h0 (by rw [numM_len]; exact h1)))]
  have q := fun (m : Nat) (hm : m < 4) => lam_places hg hm h0 h1 d 0 d rfl
  rw [show ix (ix (numM kinds d) st0) 0 = _ from (q 0 (by omega)).symm, show ix (ix (numM kinds d) st0) 1 = _ from (q 1 (by omega)).symm, show ix (ix (numM kinds d) st0) 2 = _ from (q 2 (by omega)).symm, show ix (ix (numM kinds d) st0) 3 = _ from (q 3 (by omega)).symm]
  have key : ∀ ps : List (List Int × Int), (∀ p ∈ ps, -3 ≤ p.2 ∧ p.2 < kinds.length) → (ps.length : Int) = lam kinds 0 0 ps + lam kinds 1 0 ps + lam kinds 2 0 ps + lam kinds 3 0 ps := by
    intro ps
    induction ps with
    | nil => intro _; rfl
    | cons p ps ih =>
      intro h
      have ih := ih fun q hq => h q (List.mem_cons_of_mem _ hq)
      obtain ⟨a1, a2⟩ := h p (List.mem_cons_self ..)
      have c := cls_sum a1
      rw [lam_cons, lam_cons, lam_cons, lam_cons, vl0 (by omega) a2, vl0 (by omega) a2, vl0 (by omega) a2, vl0 (by omega) a2, List.length_cons]
      omega
  exact key _ fun p hp => ⟨places_low hg h0 d p hp, (places_ok hg h1 d p hp).2⟩
theorem walk_snoc {kinds : List (List Int)} {st0 x : Int} {way : List Int} : walkM kinds st0 (way ++ [x]) = ix (ix kinds (walkM kinds st0 way)) x := by
  unfold walkM; rw [List.foldl_append]; rfl
theorem places_one {kinds : List (List Int)} {n e st0 : Int} (hg : Good kinds n e) (h0 : 0 ≤ st0) (h1 : st0 < kinds.length) : ∀ d, ∀ p ∈ placesM kinds st0 d, walkM kinds st0 p.1 = p.2 ∧ AgOne kinds st0 (d : Int) p.1
  | 0, p, hp => by
    rw [List.mem_singleton.mp hp]
    exact ⟨rfl, ⟨by simp, fun j x hx => by simp at hx, ⟨by show -3 ≤ st0; omega, .inr rfl⟩⟩⟩
  | d + 1, q, hq => by
    obtain ⟨p, hp, ⟨hn, rfl⟩ | ⟨h0', s, hs, rfl⟩⟩ := contM_mem hq
    · obtain ⟨w1, w2, w3, w4, w5⟩ := places_one hg h0 h1 d _ hp
      exact ⟨w1, ⟨by omega, w3, w4, .inl (by rw [w1]; exact hn)⟩⟩
    · obtain ⟨w1, w2, w3, w4, w5⟩ := places_one hg h0 h1 d _ hp
      have hk := (places_ok hg h1 d _ hp).2
      have hr := (hg.row _ (ix_mem h0' hk)).2 _ (ix_mem (xs := ix kinds p.2) (i := (s : Int)) (by omega) (by omega))
      have wl : (p.1.length : Int) = d := by
        rcases w5 with z | z
        · omega
        · exact z
      refine ⟨by rw [walk_snoc, w1], ⟨by rw [List.length_append]; simp; omega, fun j x hx => ?_, by rw [walk_snoc, w1]; exact hr.1, .inr (by rw [List.length_append]; simp; omega)⟩⟩
      by_cases hj : j < p.1.length
      · rw [List.getElem?_append_left hj] at hx
        rw [List.take_append_of_le_length (by omega)]
        exact w3 j x hx
      · have hj' : j = p.1.length := by
          have := (List.getElem?_eq_some_iff.mp hx).1
          simp at this; omega
        subst hj'
        rw [List.getElem?_append_right (Nat.le_refl _), Nat.sub_self] at hx
        have : x = (s : Int) := by simpa using hx.symm
        subst this
        rw [List.take_left]
        rw [w1]
        exact ⟨⟨h0', hk⟩, by omega, by omega⟩
theorem ag_found {kinds : List (List Int)} {st0 : Int} {m : Nat} (hm : m < 4) : ∀ (ps : List (List Int × Int)) (found : List Int), found.length = 4 → (∀ p ∈ ps, walkM kinds st0 p.1 = p.2 ∧ -3 ≤ p.2 ∧ p.2 < kinds.length) → ix ((ps.map fun p => p.1).foldl (agStep kinds st0) found) (m : Int) = ix found (m : Int) + lam kinds m 0 ps
  | [], found, _, _ => by rw [lam_nil]; simp
  | p :: ps, found, hl, h => by
    obtain ⟨a0, a1, a2⟩ := h p (List.mem_cons_self ..)
    have hl2 : (agStep kinds st0 found p.1).length = 4 := by unfold agStep; simp [hl]
    rw [List.map_cons, List.foldl_cons, ag_found hm ps _ hl2 (fun q hq => h q (List.mem_cons_of_mem _ hq)), lam_cons, vl0 hm a2]
    have : ix (agStep kinds st0 found p.1) (m : Int) = ix found (m : Int) + cls4 p.2 m := by
      unfold agStep cls4
      simp only [a0]
      by_cases h' : p.2 < 0
      · rw [if_pos (by omega), if_pos h', ix_set (by omega) (by omega)]
        by_cases z : (m : Int) = -p.2
        · rw [if_pos (by omega), if_pos z, z]
        · rw [if_neg (by omega), if_neg z]; omega
      · rw [if_neg (by omega), if_neg h', ix_set (by omega) (by omega)]
        by_cases z : m = 0
        · subst z; rfl
        · rw [if_neg (by show ¬ 0 = m; omega), if_neg z]; omega
    omega
theorem agree_is {kinds : List (List Int)} {n e st0 deep : Int} (hg : Good kinds n e) (h0 : 0 ≤ st0) (h1 : st0 < kinds.length) (hd : 0 ≤ deep) : AgOk kinds st0 deep ((placesM kinds st0 deep.toNat).map fun p => p.1) (ix (numM kinds deep.toNat) st0) := by
  have hp := places_one hg h0 h1 deep.toNat
  refine ⟨by rw [List.length_map]; exact places_len hg h0 h1 _, fun way hw => ?_, ?_⟩
  · obtain ⟨p, hp', rfl⟩ := List.mem_map.mp hw
    have := (hp p hp').2
    rw [show ((deep.toNat : Nat) : Int) = deep by omega] at this
    exact this
  · refine four_ext (by rw [agStep_len]; rfl) (numM_row kinds _ _ (ix_mem h0 (by rw [numM_len]; exact h1))) fun m hm => ?_
    rw [ag_found hm _ _ rfl (fun p hp' => ⟨(hp p hp').1, places_low hg h0 _ p hp', (places_ok hg h1 _ p hp').2⟩), lam_places hg hm h0 h1 deep.toNat 0 deep.toNat rfl]
    have : ix ([0, 0, 0, 0] : List Int) (m : Int) = 0 := by
      have : m = 0 ∨ m = 1 ∨ m = 2 ∨ m = 3 := by omega
      rcases this with rfl | rfl | rfl | rfl <;> rfl
    omega

def sp_law_same_rowT (K : Fg) : Sp := spG K (fun i : List Int × List Int => [.vl (tTup tI) i.1, .vl (tTup tI) i.2]) (fun i => i.1 = i.2 ∧ i.2.length ≤ 1000) tB (fun i => true)
def sp_law_same_rowL (K : Fg) : Sp := spG K (fun i : List Int × List Int => [.vl (tTup tI) i.1, .vl (tLst tI) i.2]) (fun i => i.1 = i.2 ∧ i.2.length ≤ 1000) tB (fun i => true)
section
variable {P : Program} {w : World} {K : Fg} {mg : Str → Option Value} {base : Heap}
theorem sc_law_same_row : FnScope ["value", "due", "m"] ["value", "due"] (defScope s_law_same_row) := ⟨rfl, rfl, rfl, by decide +kernel, rfl, by decide +kernel, by decide +kernel⟩
theorem ok_law_same_rowT {f : Addr} {fd : FuncData} (F : Fun K "_law_same_row" "_law_same_row" s_law_same_row f fd) (b : Bi mg) (C_law_whole : Fn P w K mg base CX0 1 "_law_whole" ["value"] (spWhole K)) : FnOk P w K mg base CX0 2 f fd ["value", "due"] (sp_law_same_rowT K) := by
  refine fn_ok F sc_law_same_row 1 rfl (fun _ => rfl) (fun cdv A outer s H E hr ⟨value, due⟩ hp => ?_)
  dsimp only at hp ⊢
  obtain ⟨rfl, hz⟩ := hp
  refine b_cons (s_if (TW.toT (w_or (t_not (t_val (e_isD (dd := dRow value) b.isinstance (e_var 0) (e_Ttuple b.tuple) (fun _ _ r => dp_row r) (kbT _)))) (fun h => (w_or1 (t_cv (e_lenT b.len (e_var 0)) (e_lenT b.len (e_var 1)) cv_neI))))) (fun h1 => ?_) (fun h1 => ?_))
  · have h1p := h1; simp [isTD, dRow] at h1p
  · refine b_nil ?_
    refine b_cons (s_forR 2 (fun m G' => G' = [.vl (tTup tI) value, .vl (tTup tI) value, .un]) _ b.range (e_lenT b.len (e_var 1)) (by omega) (Sub.refl _) rfl ?_ ?_ sc_law_same_row.nd rfl)
    · rintro m _ hm rfl
      refine b_cons (s_if (TW.toT (w_or (t_not (t_val (e_call C_law_whole (hr.mono (by decide)) _ (ea_cons (TL.E.as (t := tD) (y := .int _) (e_ixT (e_var 0) (e_var 2) (atI_ix (by omega) (by omega))) (fun _ _ r => dp_I r)) ea_nil) trivial))) (fun h => (w_or1 (t_cv (e_ixT (e_var 0) (e_var 2) (atI_ix (by omega) (by omega))) (e_ixT (e_var 1) (e_var 2) (atI_ix (by omega) (by omega))) cv_neI))))) (fun h2 => ?_) (fun h2 => ?_))
      · have h2p := h2; simp [wholeD] at h2p
      · exact b_nil (B.weak (b_nil rfl) (.same (.same (.un .nil))))
    · rintro _ rfl
      exact b_cons (s_ret e_bl (fun M v r => r))
theorem ok_law_same_rowL {f : Addr} {fd : FuncData} (F : Fun K "_law_same_row" "_law_same_row" s_law_same_row f fd) (b : Bi mg) (C_law_whole : Fn P w K mg base CX0 1 "_law_whole" ["value"] (spWhole K)) : FnOk P w K mg base CX0 2 f fd ["value", "due"] (sp_law_same_rowL K) := by
  refine fn_ok F sc_law_same_row 1 rfl (fun _ => rfl) (fun cdv A outer s H E hr ⟨value, due⟩ hp => ?_)
  dsimp only at hp ⊢
  obtain ⟨rfl, hz⟩ := hp
  refine b_cons (s_if (TW.toT (w_or (t_not (t_val (e_isD (dd := dRow value) b.isinstance (e_var 0) (e_Ttuple b.tuple) (fun _ _ r => dp_row r) (kbT _)))) (fun h => (w_or1 (t_cv (e_lenT b.len (e_var 0)) (e_lenL b.len (e_var 1)) cv_neI))))) (fun h1 => ?_) (fun h1 => ?_))
  · have h1p := h1; simp [isTD, dRow] at h1p
  · refine b_nil ?_
    refine b_cons (s_forR 2 (fun m G' => G' = [.vl (tTup tI) value, .vl (tLst tI) value, .un]) _ b.range (e_lenL b.len (e_var 1)) (by omega) (Sub.refl _) rfl ?_ ?_ sc_law_same_row.nd rfl)
    · rintro m _ hm rfl
      refine b_cons (s_if (TW.toT (w_or (t_not (t_val (e_call C_law_whole (hr.mono (by decide)) _ (ea_cons (TL.E.as (t := tD) (y := .int _) (e_ixT (e_var 0) (e_var 2) (atI_ix (by omega) (by omega))) (fun _ _ r => dp_I r)) ea_nil) trivial))) (fun h => (w_or1 (t_cv (e_ixT (e_var 0) (e_var 2) (atI_ix (by omega) (by omega))) (e_ixL (e_var 1) (e_var 2) (atI_ix (by omega) (by omega))) cv_neI))))) (fun h2 => ?_) (fun h2 => ?_))
      · have h2p := h2; simp [wholeD] at h2p
      · exact b_nil (B.weak (b_nil rfl) (.same (.same (.un .nil))))
    · rintro _ rfl
      exact b_cons (s_ret e_bl (fun M v r => r))
end

def sp_law_stayed (K : Fg) (C : Addr) : Sp := spG K (fun i : List (List Int) × List (List Int) => [.vl (tBook C) i.1, .vl (tTup (tTup tI)) i.2]) (fun i => i.1 = i.2 ∧ Good i.1 40 20) tB (fun i => true)
section
variable {P : Program} {w : World} {K : Fg} {mg : Str → Option Value} {base : Heap}
theorem sc_law_stayed : FnScope ["book", "kinds", "k"] ["book", "kinds"] (defScope s_law_stayed) := ⟨rfl, rfl, rfl, by decide +kernel, rfl, by decide +kernel, by decide +kernel⟩
theorem ok_law_stayed {C : Addr} (hC : Cls K C) (hna : NoAttr K C "kinds") {f : Addr} {fd : FuncData} (F : Fun K "_law_stayed" "_law_stayed" s_law_stayed f fd) (b : Bi mg) (C_law_same_row : Fn P w K mg base CX0 2 "_law_same_row" ["value", "due"] (sp_law_same_rowT K)) : FnOk P w K mg base CX0 3 f fd ["book", "kinds"] (sp_law_stayed K C) := by
  refine fn_ok F sc_law_stayed 1 rfl (fun _ => rfl) (fun cdv A outer s H E hr ⟨book, kinds⟩ hp => ?_)
  dsimp only at hp ⊢
  obtain ⟨rfl, hg⟩ := hp
  have hlen := hg.len
  refine b_cons (s_if (TW.toT (w_or (t_not (t_val (e_isD (dd := dTab book) b.isinstance (e_kinds (e_var 0) hC hna) (e_Ttuple b.tuple) (fun _ _ r => dp_tab r) (kbT _)))) (fun h => (w_or1 (t_cv (e_lenT b.len (e_kinds (e_var 0) hC hna)) (e_lenT b.len (e_var 1)) cv_neI))))) (fun h1 => ?_) (fun h1 => ?_))
  · have h1p := h1; simp [isTD, dTab] at h1p
  · refine b_nil ?_
    refine b_cons (s_forR 2 (fun m G' => G' = [.vl (tBook C) book, .vl (tTup (tTup tI)) book, .un]) _ b.range (e_lenT b.len (e_var 1)) (by omega) (Sub.refl _) rfl ?_ ?_ sc_law_stayed.nd rfl)
    · rintro m _ hm rfl
      have hrow := hg.row _ (ix_mem (xs := book) (i := (m : Int)) (by omega) (by omega))
      refine b_cons (s_if (t_not (t_val (e_call C_law_same_row (hr.mono (by decide)) (ix book (m : Int), ix book (m : Int)) (ea_cons (e_ixT (e_kinds (e_var 0) hC hna) (e_var 2) (atI_ix (by omega) (by omega))) (ea_cons (e_ixT (e_var 1) (e_var 2) (atI_ix (by omega) (by omega))) ea_nil)) (by refine ⟨rfl, ?_⟩; have := hrow.1; dsimp only; omega)))) (fun h2 => ?_) (fun h2 => ?_))
      · cases h2
      · exact b_nil (B.weak (b_nil rfl) (.same (.same (.un .nil))))
    · rintro _ rfl
      exact b_cons (s_ret e_bl (fun M v r => r))
end

def spotsRow (k len : Nat) : List (Int × Int) := (List.range len).map fun j : Nat => ((k : Int), (j : Int))
def spotsUpTo (kinds : List (List Int)) (m : Nat) : List (Int × Int) := ((List.range m).map fun k => spotsRow k (kinds.getD k []).length).flatten
def changedM (kinds : List (List Int)) (row : List Int) : List (List Int) :=
  if decide (((spotsUpTo kinds kinds.length).length : Int) = 0) = true then kinds.set (ix row 0 % (kinds.length : Int)).toNat [ix row 1 % ((kinds.length : Int) + 3) - 3] else
  let spot := ix (spotsUpTo kinds kinds.length) (ix row 0 % ((spotsUpTo kinds kinds.length).length : Int))
  kinds.set spot.1.toNat ((ix kinds spot.1).set spot.2.toNat ((ix (ix kinds spot.1) spot.2 + 4 + ix row 1 % ((kinds.length : Int) + 2)) % ((kinds.length : Int) + 3) - 3))
theorem spots_mem {kinds : List (List Int)} {m : Nat} {p : Int × Int} (h : p ∈ spotsUpTo kinds m) : ∃ k j : Nat, k < m ∧ j < (kinds.getD k []).length ∧ p = ((k : Int), (j : Int)) := by
  unfold spotsUpTo at h
  obtain ⟨l, hl, hp⟩ := List.mem_flatten.mp h
  obtain ⟨k, hk, rfl⟩ := List.mem_map.mp hl
  obtain ⟨j, hj, rfl⟩ := List.mem_map.mp hp
  exact ⟨k, j, List.mem_range.mp hk, List.mem_range.mp hj, rfl⟩
theorem spots_len {kinds : List (List Int)} {e : Nat} (he : ∀ r ∈ kinds, r.length ≤ e) : ∀ m, m ≤ kinds.length → (spotsUpTo kinds m).length ≤ m * e := by
  intro m
  induction m with
  | zero => intro _; exact Nat.le_of_eq (by unfold spotsUpTo; simp)
  | succ m ih =>
    intro hm
    have ih' := ih (by omega)
    unfold spotsUpTo at ih' ⊢
    rw [List.range_succ, List.map_append, List.flatten_append, List.length_append]
    have : (kinds.getD m []).length ≤ e := by
      rw [List.getD_eq_getElem?_getD, List.getElem?_eq_getElem (by omega)]
      exact he _ (List.getElem_mem _)
    simp only [List.map_cons, List.map_nil, List.flatten_cons, List.flatten_nil, List.append_nil, spotsRow, List.length_map, List.length_range, Nat.succ_mul]
    simp only [spotsRow] at ih'
    omega
/-- a book with rows that are not too long -/
structure Fine (ks : List (List Int)) (n e : Nat) : Prop where
  pos : 0 < ks.length
  len : ks.length ≤ n
  row : ∀ r ∈ ks, r.length ≤ e
theorem Good.fine {ks : List (List Int)} {n e : Nat} (h : Good ks n e) : Fine ks n e := ⟨h.pos, by have := h.len; omega, fun r hr => by have := (h.row r hr).1; omega⟩
theorem set_good {ks : List (List Int)} {n e : Int} (h : Good ks n e) (k : Nat) (r : List Int) (hr : (r.length : Int) ≤ e ∧ ∀ t ∈ r, -3 ≤ t ∧ t < ks.length) : Good (ks.set k r) n e := by
  refine ⟨by rw [List.length_set]; exact h.pos, by rw [List.length_set]; exact h.len, fun x hx => ?_⟩
  rw [List.length_set]
  rcases List.mem_or_eq_of_mem_set hx with z | z
  · exact h.row x z
  · rw [z]; exact hr
theorem changed_good {kinds : List (List Int)} {row : List Int} {n e : Int} (h : Good kinds n e) (he : 1 ≤ e) : Good (changedM kinds row) n e := by
  have hp := h.pos
  unfold changedM
  split
  · refine set_good h _ _ ⟨by simp; omega, fun t ht => ?_⟩
    rw [List.mem_singleton.mp ht]
    have a1 := Int.emod_nonneg (ix row 1) (show (kinds.length : Int) + 3 ≠ 0 by omega)
    have a2 := Int.emod_lt_of_pos (ix row 1) (show 0 < (kinds.length : Int) + 3 by omega)
    omega
  · rename_i h0
    simp only [decide_eq_true_eq] at h0
    have hl : 0 < ((spotsUpTo kinds kinds.length).length : Int) := by omega
    have b1 := Int.emod_nonneg (ix row 0) (show ((spotsUpTo kinds kinds.length).length : Int) ≠ 0 by omega)
    have b2 := Int.emod_lt_of_pos (ix row 0) hl
    obtain ⟨k, j, hk, hj, hs⟩ := spots_mem (ix_mem b1 b2)
    simp only [hs]
    have hx := ix_mem (xs := kinds) (i := (k : Int)) (by omega) (by omega)
    obtain ⟨r1, r2⟩ := h.row _ hx
    refine set_good h _ _ ⟨by rw [List.length_set]; exact r1, fun t ht => ?_⟩
    rcases List.mem_or_eq_of_mem_set ht with z | z
    · exact r2 t z
    · rw [z]
      have a1 := Int.emod_nonneg (ix (ix kinds (k : Int)) (j : Int) + 4 + ix row 1 % ((kinds.length : Int) + 2)) (show (kinds.length : Int) + 3 ≠ 0 by omega)
      have a2 := Int.emod_lt_of_pos (ix (ix kinds (k : Int)) (j : Int) + 4 + ix row 1 % ((kinds.length : Int) + 2)) (show 0 < (kinds.length : Int) + 3 by omega)
      omega
def sp_law_changed (K : Fg) : Sp := spG K (fun i : List (List Int) × List Int => [.vl (tTup (tTup tI)) i.1, .vl (tLst tI) i.2]) (fun i => Fine i.1 100 100 ∧ 2 ≤ i.2.length) (tTup (tTup tI)) (fun i => changedM i.1 i.2)
section
variable {P : Program} {w : World} {K : Fg} {mg : Str → Option Value} {base : Heap}
theorem sc_law_changed : FnScope ["kinds", "row", "told", "kind", "many", "spots", "k", "j", "spot", "line"] ["kinds", "row"] (defScope s_law_changed) := ⟨rfl, rfl, rfl, by decide +kernel, rfl, by decide +kernel, by decide +kernel⟩
theorem ok_law_changed {f : Addr} {fd : FuncData} (F : Fun K "_law_changed" "_law_changed" s_law_changed f fd) (b : Bi mg)  : FnOk P w K mg base CX0 1 f fd ["kinds", "row"] (sp_law_changed K) := by
  refine fn_ok F sc_law_changed 8 rfl (fun _ => rfl) (fun cdv A outer s H E hr ⟨kinds, row⟩ hp => ?_)
  dsimp only at hp ⊢
  obtain ⟨hF, hrow⟩ := hp
  obtain ⟨hpos, hlen, hrows⟩ := hF
  have hsl := spots_len (kinds := kinds) (e := 100) hrows
  have mapid : ∀ xs : List (List Int), List.map (fun x => x) xs = xs := fun xs => List.map_id' xs
  refine b_cons (s_lc2T (own := [("kind", 3)]) 2 3 (e_var 0) (fun s0 H C cl fp m x hx => (el_listT b.list (e_var 3))) (blkOk_by (N := ["kinds", "row", "told", "kind", "many", "spots", "k", "j", "spot", "line"]) (sc := defScope s_law_changed) (by decide +kernel)) (by first | decide | omega) (fun _ _ _ _ _ => pg_name sc_law_changed.nd rfl (by first | exact Or.inl rfl | exact Or.inr rfl)) ?_ rfl sc_law_changed.nd)
  rw [mapid]
  refine b_cons (s_set 4 (e_read2 2 rfl imm_I (e_lenL b.len (e_var 2))) ?_ sc_law_changed.nd)
  refine b_cons (s_own 5 (el_lst (s := (tP2 tI tI)) eh_nil) ?_ sc_law_changed.nd)
  refine b_cons (s_forR 6 (fun m G' => G' = [.vl (tTup (tTup tI)) kinds, .vl (tLst tI) row, .o2 tI kinds, .un, .vl tI (kinds.length : Int), .ow (tP2 tI tI) (spotsUpTo kinds m), .un, .un, .un, .un]) _ b.range (e_var 4) (by first | decide | omega) (Sub.refl _) rfl ?_ ?_ sc_law_changed.nd rfl)
  · rintro k _ hm rfl
    have hk : k < kinds.length := by omega
    have hkr : atI kinds (k : Int) = some kinds[k] := atI_nat (List.getElem?_eq_getElem hk)
    have hkl : kinds[k].length ≤ 100 := hrows _ (List.getElem_mem _)
    have hkd : kinds.getD k [] = kinds[k] := by rw [List.getD_eq_getElem?_getD, List.getElem?_eq_getElem hk]; rfl
    have hsk := hsl k (by omega)
    refine b_cons (s_forR 7 (fun m G' => G' = [.vl (tTup (tTup tI)) kinds, .vl (tLst tI) row, .o2 tI kinds, .un, .vl tI (kinds.length : Int), .ow (tP2 tI tI) (spotsUpTo kinds k ++ spotsRow k m), .vl tI (k : Int), .un, .un, .un]) _ b.range (e_read2 2 rfl imm_I (e_lenL b.len (e_ixL (e_var 2) (e_var 6) hkr))) (by first | decide | omega) (Sub.refl _) (by rw [show spotsRow k 0 = [] from rfl, List.append_nil]; rfl) ?_ ?_ sc_law_changed.nd rfl)
    · rintro j _ hj rfl
      refine b_cons (s_app 5 rfl (e_p2 (e_var 6) (e_var 7)) (by rw [List.length_append]; simp only [spotsRow, List.length_map, List.length_range]; omega) ?_)
      refine B.weak (b_nil rfl) ?_
      rw [show spotsRow k (j + 1) = spotsRow k j ++ [((k : Int), (j : Int))] from by unfold spotsRow; rw [List.range_succ, List.map_append]; rfl, ← List.append_assoc]
      exact .same (.same (.same (.same (.same (.same (.same (.un (.same (.same .nil)))))))))
    · rintro _ rfl
      refine B.weak (b_nil rfl) ?_
      rw [show spotsUpTo kinds (k + 1) = spotsUpTo kinds k ++ spotsRow k kinds[k].length from by unfold spotsUpTo; rw [List.range_succ, List.map_append, List.flatten_append, List.map_cons, List.map_nil, List.flatten_cons, List.flatten_nil, List.append_nil, hkd], Int.toNat_natCast]
      exact .same (.same (.same (.same (.same (.same (.un (.same (.same (.same .nil)))))))))
  · rintro _ rfl
    rw [Int.toNat_natCast]
    have hS := hsl kinds.length (Nat.le_refl _)
    have hr0 : atI row 0 = some (ix row 0) := atI_ix (by omega) (by omega)
    have hr1 : atI row 1 = some (ix row 1) := atI_ix (by omega) (by omega)
    refine b_cut (fun G' => Sub G' [.vl (tTup (tTup tI)) kinds, .vl (tLst tI) row, .o2 tI (changedM kinds row), .un, .un, .un, .un, .un, .un, .un]) (s_if (t_read 5 rfl (t_cv (e_lenL b.len (e_var 5)) e_int cv_eqI)) (fun h => ?_) (fun h => ?_)) ?_
    · have a1 := Int.emod_nonneg (ix row 0) (show (kinds.length : Int) ≠ 0 by omega)
      have a2 := Int.emod_lt_of_pos (ix row 0) (show 0 < (kinds.length : Int) by omega)
      refine b_cons (s_set2 2 (l := (ix row 0 % (kinds.length : Int)).toNat) rfl (el_lst (eh_cons (e_sub (e_mod (e_intI b.int (e_ixL (e_var 1) e_int hr1)) (e_add (e_var 4) e_int) (by omega)) e_int) eh_nil)) (e_mod (e_intI b.int (e_ixL (e_var 1) e_int hr0)) (e_var 4) (by omega)) ?_ ?_)
      · unfold ixN; rw [if_pos a1, if_pos a2]
      refine b_nil ?_
      unfold changedM; rw [if_pos h]
      exact .same (.same (.same (.same (.un (.un (.same (.same (.same (.same .nil)))))))))
    · have hp := of_decide_eq_false h
      have b1 := Int.emod_nonneg (ix row 0) (show ((spotsUpTo kinds kinds.length).length : Int) ≠ 0 by omega)
      have b2 := Int.emod_lt_of_pos (ix row 0) (show 0 < ((spotsUpTo kinds kinds.length).length : Int) by omega)
      have hsp := ix_mem (xs := spotsUpTo kinds kinds.length) b1 b2
      refine b_cons (s_set 8 (e_read 5 rfl (imm_2 imm_I imm_I) (e_ixL (e_var 5) (e_mod (e_intI b.int (e_ixL (e_var 1) e_int hr0)) (e_lenL b.len (e_var 5)) (by omega)) (atI_ix (by omega) b2))) ?_ sc_law_changed.nd)
      obtain ⟨k, j, hk, hj, hs⟩ := spots_mem hsp
      have hkd : kinds.getD k [] = kinds[k] := by rw [List.getD_eq_getElem?_getD, List.getElem?_eq_getElem hk]; rfl
      rw [hkd] at hj
      have hkx : ix kinds (k : Int) = kinds[k] := ix_getElem (by omega) (by rw [Int.toNat_natCast]; exact List.getElem?_eq_getElem hk)
      have hjx : atI kinds[k] (j : Int) = some (ix kinds[k] (j : Int)) := atI_ix (by omega) (by omega)
      rw [hs]
      refine b_alias 2 9 (l := k) (r := j) (xs := kinds[k]) rfl (by decide) (e_2a (e_var 8) e_int) (by unfold ixN; rw [if_pos (by simp), if_pos (by simp only; omega)]; simp) (List.getElem?_eq_getElem hk)
        (e_sub (e_mod (e_intI b.int (e_add (e_add (e_ixL (e_var 9) (e_2b (e_var 8) e_int) hjx) e_int) (e_mod (e_intI b.int (e_ixL (e_var 1) e_int hr1)) (e_add (e_var 4) e_int) (by omega)))) (e_add (e_var 4) e_int) (by omega)) e_int) imm_I (e_2b (e_var 8) e_int) (by unfold ixN; rw [if_pos (by simp), if_pos (by simp only; omega)]; simp) ?_ (hN := sc_law_changed.nd)
      refine b_nil ?_
      unfold changedM; rw [if_neg (nt h)]
      simp only [hs, hkx, Int.toNat_natCast]
      exact .same (.same (.same (.same (.un (.un (.same (.same (.un (.same .nil)))))))))
    intro G' hG
    refine B.weak ?_ hG
    refine b_cons (s_ret (e_read2 2 rfl (imm_T (imm_T imm_I)) (e_tupL b.tuple (EL.toE (el_lc (lc_L (own := [("kind", 3)]) (e_var 2) 3 (fun s0 H C cl fp m x hx => (e_tupL b.tuple (e_var 3))) (blkOk_by (N := ["kinds", "row", "told", "kind", "many", "spots", "k", "j", "spot", "line"]) (sc := defScope s_law_changed) (by decide +kernel)) ?_ (fun _ _ _ _ _ => pg_name sc_law_changed.nd rfl (by first | exact Or.inl rfl | exact Or.inr rfl))) rfl sc_law_changed.nd)))) (fun M v r => ?_))
    · unfold changedM; split <;> (simp only [List.length_set]; omega)
    · exact ret_is r (mapid _).symm
end

def livelyM (kinds : List (List Int)) (row : List Int) : List (List Int) :=
  if (decide (0 < ((ix kinds 0).length : Int)) || decide (ix row 0 = 0)) = true then kinds else
  [[ix row 1 % (kinds.length : Int), ix row 2 % ((kinds.length : Int) + 3) - 3]] ++ cut kinds (some 1) none
theorem cut_tail {α : Type} (xs : List α) : cut xs (some 1) none = xs.drop 1 := by
  unfold cut
  cases xs with
  | nil => rfl
  | cons x xs =>
    have e1 : HT.sIx (x :: xs).length 0 (some 1) = 1 := by
      unfold HT.sIx; simp
    have e2 : HT.sIx (x :: xs).length (x :: xs).length none = (x :: xs).length := rfl
    rw [e1, e2]; simp
theorem lively_good {kinds : List (List Int)} {row : List Int} {n e : Int} (h : Good kinds n e) (he : 2 ≤ e) : Good (livelyM kinds row) n e := by
  have hp := h.pos
  have hl := h.len
  unfold livelyM
  split
  · exact h
  · rw [cut_tail]
    have l1 : ([[ix row 1 % (kinds.length : Int), ix row 2 % ((kinds.length : Int) + 3) - 3]] ++ kinds.drop 1).length = kinds.length := by
      rw [List.length_append, List.length_drop]; simp; omega
    refine ⟨by rw [l1]; exact hp, by rw [l1]; exact hl, fun r hr => ?_⟩
    rw [l1]
    rcases List.mem_append.mp hr with z | z
    · rw [List.mem_singleton.mp z]
      refine ⟨by simp; omega, fun t ht => ?_⟩
      have a1 := Int.emod_nonneg (ix row 1) (show (kinds.length : Int) ≠ 0 by omega)
      have a2 := Int.emod_lt_of_pos (ix row 1) (show 0 < (kinds.length : Int) by omega)
      have b1 := Int.emod_nonneg (ix row 2) (show (kinds.length : Int) + 3 ≠ 0 by omega)
      have b2 := Int.emod_lt_of_pos (ix row 2) (show 0 < (kinds.length : Int) + 3 by omega)
      simp only [List.mem_cons, List.not_mem_nil, or_false] at ht
      omega
    · exact h.row r (List.mem_of_mem_drop z)
def sp_law_lively (K : Fg) : Sp := spG K (fun i : List (List Int) × List Int => [.vl (tTup (tTup tI)) i.1, .vl (tLst tI) i.2]) (fun i => (0 < i.1.length ∧ i.1.length ≤ 100) ∧ 3 ≤ i.2.length) (tTup (tTup tI)) (fun i => livelyM i.1 i.2)
section
variable {P : Program} {w : World} {K : Fg} {mg : Str → Option Value} {base : Heap}
theorem sc_law_lively : FnScope ["kinds", "row", "many"] ["kinds", "row"] (defScope s_law_lively) := ⟨rfl, rfl, rfl, by decide +kernel, rfl, by decide +kernel, by decide +kernel⟩
theorem ok_law_lively {f : Addr} {fd : FuncData} (F : Fun K "_law_lively" "_law_lively" s_law_lively f fd) (b : Bi mg)  : FnOk P w K mg base CX0 1 f fd ["kinds", "row"] (sp_law_lively K) := by
  refine fn_ok F sc_law_lively 1 rfl (fun _ => rfl) (fun cdv A outer s H E hr ⟨kinds, row⟩ hp => ?_)
  dsimp only at hp ⊢
  have hcl : (cut kinds (some 1) none).length ≤ kinds.length := by rw [cut_tail, List.length_drop]; omega
  refine b_cons (s_set 2 (e_lenT b.len (e_var 0)) ?_ sc_law_lively.nd)
  refine b_cons (s_if (TW.toT (w_or (t_cv (e_lenT b.len (e_ixT (e_var 0) e_int (atI_ix (by first | decide | omega | (simp only [List.length_cons, List.length_nil]; omega)) (by first | decide | omega | (simp only [List.length_cons, List.length_nil]; omega))))) e_int cv_gt) (fun h => (w_or1 (t_cv (e_ixL (e_var 1) e_int (atI_ix (by first | decide | omega | (simp only [List.length_cons, List.length_nil]; omega)) (by first | decide | omega | (simp only [List.length_cons, List.length_nil]; omega)))) e_int cv_eqI))))) (fun h1 => ?_) (fun h1 => ?_))
  · have h1p := h1; try simp only [Bool.and_eq_true, Bool.or_eq_true, Bool.and_eq_false_iff, Bool.or_eq_false_iff, Bool.not_eq_true', Bool.not_eq_false', decide_eq_true_eq, decide_eq_false_iff_not] at h1p
    refine b_cons (s_ret (e_var 0) (fun M v r => ?_))
    exact ret_is r (by unfold livelyM; rw [if_pos h1])
  · have h1p := h1; try simp only [Bool.and_eq_true, Bool.or_eq_true, Bool.and_eq_false_iff, Bool.or_eq_false_iff, Bool.not_eq_true', Bool.not_eq_false', decide_eq_true_eq, decide_eq_false_iff_not] at h1p
    refine b_nil ?_
    refine b_cons (s_ret (e_catT (e_tup (eh_cons (e_tup (eh_cons (e_mod (e_intI b.int (e_ixL (e_var 1) e_int (atI_ix (by first | decide | omega | (simp only [List.length_cons, List.length_nil]; omega)) (by first | decide | omega | (simp only [List.length_cons, List.length_nil]; omega))))) (e_var 2) (by first | decide | omega)) (eh_cons (e_sub (e_mod (e_intI b.int (e_ixL (e_var 1) e_int (atI_ix (by first | decide | omega | (simp only [List.length_cons, List.length_nil]; omega)) (by first | decide | omega | (simp only [List.length_cons, List.length_nil]; omega))))) (e_add (e_var 2) e_int) (by first | decide | omega)) e_int) eh_nil))) eh_nil)) (e_sliceT (e_var 0) (eo_some e_int) eo_none) (by simp) (by first | decide | (simp only [List.length_cons, List.length_nil]; omega) | (simp only [List.length_cons, List.length_nil, List.length_append, rep_len, List.length_map, List.length_range, List.length_take, List.length_drop, List.length_replicate, List.length_set, Nat.zero_add, Nat.mul_one, Nat.one_mul]; omega))) (fun M v r => ?_))
    exact ret_is r (by unfold livelyM; rw [if_neg (nt h1)])
end

def broadRow (row : List Int) (k : Int) : List Int := (cut row (some (3 + 20 * k)) (some (4 + 20 * k + ix row (1 + k)))).map fun t => ix [t - 3, t % (1 + ix row 0)] (if decide (2 < t) then 1 else 0)
def broadM (row : List Int) : List (List Int) := (List.range (1 + ix row 0).toNat).map fun k : Nat => broadRow row (k : Int)
structure GoodBroad (row : List Int) : Prop where
  len : row.length = 43
  h0 : 0 ≤ ix row 0 ∧ ix row 0 < 2
  h1 : ∀ k : Int, 0 ≤ k → k < 2 → 0 ≤ ix row (1 + k) ∧ ix row (1 + k) < 20
  pos : ∀ x ∈ row, 0 ≤ x
theorem cut_len {α : Type} (xs : List α) (a b : Int) (h0 : 0 ≤ a) (hab : a ≤ b) : ((cut xs (some a) (some b)).length : Int) ≤ b - a := by
  unfold cut
  rw [List.length_take, List.length_drop]
  have e1 : HT.sIx xs.length 0 (some a) = min a.toNat xs.length := by exact if_neg (by omega)
  have e2 : HT.sIx xs.length xs.length (some b) = min b.toNat xs.length := by exact if_neg (by omega)
  rw [e1, e2]; omega
theorem cut_mem {α : Type} {xs : List α} {a b : Option Int} {x : α} (h : x ∈ cut xs a b) : x ∈ xs := List.mem_of_mem_drop (List.mem_of_mem_take h)
theorem broad_good {row : List Int} (h : GoodBroad row) : Good (broadM row) 2 20 := by
  obtain ⟨hl, h0, h1, hpos⟩ := h
  have l1 : (broadM row).length = (1 + ix row 0).toNat := by unfold broadM; simp
  refine ⟨by rw [l1]; omega, by rw [l1]; omega, fun r hr => ?_⟩
  unfold broadM at hr
  obtain ⟨k, hk, rfl⟩ := List.mem_map.mp hr
  have hk := List.mem_range.mp hk
  have hs := h1 (k : Int) (by omega) (by omega)
  refine ⟨?_, fun t ht => ?_⟩
  · unfold broadRow
    rw [List.length_map]
    have := cut_len row (3 + 20 * (k : Int)) (4 + 20 * (k : Int) + ix row (1 + (k : Int))) (by omega) (by omega)
    omega
  · unfold broadRow at ht
    obtain ⟨x, hx, rfl⟩ := List.mem_map.mp ht
    have hx0 := hpos x (cut_mem hx)
    have a1 := Int.emod_nonneg x (show 1 + ix row 0 ≠ 0 by omega)
    have a2 := Int.emod_lt_of_pos x (show 0 < 1 + ix row 0 by omega)
    rw [l1]
    by_cases hc : 2 < x
    · rw [decide_eq_true hc, if_pos rfl, show ix [x - 3, x % (1 + ix row 0)] 1 = x % (1 + ix row 0) from ix_getElem (by omega) rfl]; omega
    · rw [decide_eq_false hc, if_neg (by decide), show ix [x - 3, x % (1 + ix row 0)] 0 = x - 3 from ix_getElem (by omega) rfl]; omega
theorem digits_goodBroad (c : Int) : GoodBroad (digitsM c ([2, 20, 20] ++ (List.replicate 40 [12]).flatten)) := by
  have hs : ∀ s ∈ ([2, 20, 20] ++ (List.replicate 40 [12]).flatten : List Int), 0 < s := by decide
  have p := dig_good c _ hs
  have hl : ([2, 20, 20] ++ (List.replicate 40 [12]).flatten : List Int).length = 43 := by decide
  refine ⟨by rw [digits_len]; exact hl, ?_, fun k k0 k1 => ?_, fun x hx => ?_⟩
  · exact ix_paired p (i := 0) (by omega) (by rw [hl]; omega)
  · have q := ix_paired p (i := 1 + k) (by omega) (by rw [hl]; omega)
    have : k = 0 ∨ k = 1 := by omega
    rcases this with rfl | rfl
    · exact q
    · exact q
  · obtain ⟨i, hi⟩ := List.getElem?_of_mem hx
    obtain ⟨_, _, q, _⟩ := paired_get' p hi
    exact q
def sp_law_broad (K : Fg) : Sp := spG K (fun i : List Int => [.vl (tLst tI) i]) (fun i => GoodBroad i) (tTup (tTup tI)) (fun i => broadM i)
section
variable {P : Program} {w : World} {K : Fg} {mg : Str → Option Value} {base : Heap}
theorem sc_law_broad : FnScope ["row", "many", "kinds", "k", "line", "t"] ["row"] (defScope s_law_broad) := ⟨rfl, rfl, rfl, by decide +kernel, rfl, by decide +kernel, by decide +kernel⟩
theorem ok_law_broad {f : Addr} {fd : FuncData} (F : Fun K "_law_broad" "_law_broad" s_law_broad f fd) (b : Bi mg)  : FnOk P w K mg base CX0 1 f fd ["row"] (sp_law_broad K) := by
  refine fn_ok F sc_law_broad 5 rfl (fun _ => rfl) (fun cdv A outer s H E hr row hp => ?_)
  obtain ⟨hl, h0, h1, hpos⟩ := hp
  refine b_cons (s_set 1 (e_add e_int (e_ixL (e_var 0) e_int (atI_ix (by first | decide | omega | (simp only [List.length_cons, List.length_nil]; omega)) (by first | decide | omega | (simp only [List.length_cons, List.length_nil]; omega))))) ?_ sc_law_broad.nd)
  refine b_cons (s_own 2 (el_lst (s := tTup tI) eh_nil) ?_ sc_law_broad.nd)
  refine b_cons (s_forR 3 (fun m G' => G' = [.vl (tLst tI) row, .vl tI (1 + ix row 0), .ow (tTup tI) ((List.range m).map fun k : Nat => broadRow row (k : Int)), .un, .un, .un]) _ b.range (e_var 1) (by first | decide | omega) (Sub.refl _) rfl ?_ ?_ sc_law_broad.nd rfl)
  · rintro m _ hm rfl
    have hk := h1 (m : Int) (by omega) (by omega)
    have hcl := cut_len row (3 + 20 * (m : Int)) (4 + 20 * (m : Int) + ix row (1 + (m : Int))) (by omega) (by omega)
    refine b_cons (s_own 4 (el_slice (e_var 0) (eo_some (e_add e_int (e_mulL e_int (e_var 3) (by decide)))) (eo_some (e_add (e_add e_int (e_mulL e_int (e_var 3) (by decide))) (e_ixL (e_var 0) (e_add e_int (e_var 3)) (atI_ix (by first | decide | omega | (simp only [List.length_cons, List.length_nil]; omega)) (by first | decide | omega | (simp only [List.length_cons, List.length_nil]; omega))))))) ?_ sc_law_broad.nd)
    refine b_cons (s_app 2 rfl (e_read 4 rfl (imm_T imm_I) (e_tupL b.tuple (EL.toE (el_lc (lc_L (own := [("t", 5)]) (e_var 4) 5 (fun s0 H C cl fp m x hx => (e_ixL (EL.toE (el_lst (eh_cons (e_sub (e_var 5) e_int) (eh_cons (e_mod (e_intI b.int (e_var 5)) (e_var 1) (by first | decide | omega)) eh_nil)))) (e_intB b.int (e_cv (e_var 5) e_int cv_gt)) (atI_ix (by split <;> (simp only [List.length_cons, List.length_nil]; omega)) (by split <;> (simp only [List.length_cons, List.length_nil]; omega))))) (blkOk_by (N := ["row", "many", "kinds", "k", "line", "t"]) (sc := defScope s_law_broad) (by decide +kernel)) (by first | decide | omega) (fun _ _ _ _ _ => pg_name sc_law_broad.nd rfl (by first | exact Or.inl rfl | exact Or.inr rfl))) rfl sc_law_broad.nd)))) (by first | decide | omega | (simp only [List.length_cons, List.length_nil, List.length_append, rep_len, List.length_map, List.length_range, List.length_take, List.length_drop, List.length_replicate, List.length_set, Nat.zero_add, Nat.mul_one, Nat.one_mul]; omega)) ?_)
    refine B.weak (b_nil rfl) ?_
    rw [List.range_succ, List.map_append]
    exact .same (.same (.same (.un (.un (.un .nil)))))
  · rintro _ rfl
    exact b_cons (s_ret (e_read 2 rfl (imm_T (imm_T imm_I)) (e_tupL b.tuple (e_var 2))) (fun M v r => r))
end

def seedM (ns : List Int) : Int := ns.foldl (fun s c => (s * 31 + c % 1000003) % 1000003) 17
def cellM (ns : List Int) (k : Int) : Int := if k < ns.length then ix ns k else (seedM ns + 7) * (k + 3) * 69621 % 2147483647
def sp_law_cell (K : Fg) : Sp := spG K (fun i : List Int × Int => [.vl (tSq tI) i.1, .vl tI i.2]) (fun i => i.1.length ≤ 63 ∧ 0 ≤ i.2 ∧ i.2 < 100) tI (fun i => cellM i.1 i.2)
theorem seedM_b (ns : List Int) : 0 ≤ seedM ns ∧ seedM ns < 1000003 := by
  unfold seedM
  suffices h : ∀ (ns : List Int) (s : Int), 0 ≤ s ∧ s < 1000003 → 0 ≤ ns.foldl (fun s c => (s * 31 + c % 1000003) % 1000003) s ∧ ns.foldl (fun s c => (s * 31 + c % 1000003) % 1000003) s < 1000003 by
    exact h ns 17 (by omega)
  intro ns
  induction ns with
  | nil => intro s h; exact h
  | cons c ns ih => intro s h; exact ih _ (by simp only; omega)
theorem sc_law_cell : FnScope ["script", "k", "seed", "cell"] ["script", "k"] (defScope s_law_cell) := ⟨rfl, rfl, rfl, by decide +kernel, rfl, by decide +kernel, by decide +kernel⟩
section
variable {P : Program} {w : World} {K : Fg} {mg : Str → Option Value} {base : Heap}
theorem ok_law_cell {f : Addr} {fd : FuncData} (F : Fun K "_law_cell" "_law_cell" s_law_cell f fd) (b : Bi mg) : FnOk P w K mg base CX0 1 f fd ["script", "k"] (sp_law_cell K) := by
  refine fn_ok F sc_law_cell 2 rfl (fun _ => rfl) (fun cdv A outer s H E hr ⟨ns, k⟩ hp => ?_)
  dsimp only at hp ⊢
  obtain ⟨h63, hk0, hk1⟩ := hp
  refine b_cons (s_if (t_cv (e_var 1) (e_lenS b.len (e_var 0)) cv_lt) (fun h => ?_) (fun h => ?_))
  · have h := of_decide_eq_true h
    refine b_cons (s_ret (e_ixS (e_var 0) (e_var 1) (atI_ix (by omega) h)) (fun M v r => ?_))
    show v = V.int (cellM ns k)
    unfold cellM; rw [if_pos h]; exact r
  · have h := of_decide_eq_false h
    refine b_nil ?_
    refine b_cons (s_set 2 e_int ?_ sc_law_cell.nd)
    refine b_cons (s_forS 3 (fun m G' => G' = [.vl (tSq tI) ns, .vl tI k, .vl tI (seedM (ns.take m)), .un]) [.vl (tSq tI) ns, .vl tI k, .vl tI 17, .un] (e_var 0) (Sub.refl _) rfl ?_ ?_ sc_law_cell.nd rfl)
    · rintro m x _ hx rfl
      refine b_cons (s_set 2 (e_mod (e_intI b.int (e_add (e_mulR (e_var 2) e_int (by decide)) (e_mod (e_intI b.int (e_var 3)) e_int (by decide)))) e_int (by decide)) ?_ sc_law_cell.nd)
      refine B.weak (b_nil rfl) ?_
      have e : seedM (ns.take (m + 1)) = (seedM (ns.take m) * 31 + x % 1000003) % 1000003 := by
        unfold seedM; rw [take_snoc hx, List.foldl_append]; rfl
      rw [e]
      exact .same (.same (.same (.un .nil)))
    · rintro _ rfl
      have hb := seedM_b ns
      refine b_cons (s_ret (e_mod (e_intI b.int (e_mulR (e_mulL (e_add (e_var 2) e_int) (e_add (e_var 1) e_int) ?_) e_int (by decide))) e_int (by decide)) (fun M v r => ?_))
      · rw [List.take_length]; omega
      · show v = V.int (cellM ns k)
        unfold cellM; rw [if_neg h]
        rw [List.take_length] at r
        exact r
end

section
variable {P : Program} {w : World} {K : Fg} {mg : Str → Option Value} {base : Heap}
theorem scFrozen : FnScope ["value", "item"] ["value"] (defScope sfrozen) := ⟨rfl, rfl, rfl, by decide +kernel, rfl, by decide +kernel, by decide +kernel⟩
theorem st_frozen {f : Addr} {fd : FuncData} (F : Fun K "frozen" "frozen" sfrozen f fd) (b : Bi mg) (hm : mg "frozen" = some (.ref f)) (hb : Binds K fd ["value"] []) (n : Nat) (ih : ∀ m, n = m + 1 → FnOk P w K mg base CX0 (m + 1) f fd ["value"] (spFz K m)) : FnOk P w K mg base CX0 (n + 1) f fd ["value"] (spFz K n) := by
    refine fn_ok F scFrozen 1 rfl (fun _ => rfl) (fun cdv A outer s H E hr d hp => ?_)
    cases d with
    | list ds =>
      obtain ⟨m, rfl⟩ : ∃ m, n = m + 1 := by
        cases n with
        | zero => exact (show False from hp).elim
        | succ m => exact ⟨m, rfl⟩
      obtain ⟨hz, hf⟩ := hp
      refine b_cons (s_if (t_val (e_isD2 (dd := .list ds) (d1 := true) (d2 := false) b.isinstance (e_var 0) (e_Tlist b.list) (e_Ttuple b.tuple) (fun _ _ r => r) kb_list_list kb_list_tuple)) (fun _ => ?_) (fun h => by cases h))
      refine b_cons (s_ret (s := tTup tD) (x := ds.map frz) (e_tupL b.tuple (EL.toE (el_lc (lc_S (s := tD) (t := tD) (own := [("item", 1)]) (xs := ds) ((e_var 0).as (fun M v r => rep_DL r)) 1 (fun s0 H C cl fp m' x hx =>
        e_call ⟨f, fd, hm, F.kp, hb, ih m rfl⟩ hr _ (ea_cons (e_var 1) ea_nil) (hf x (List.mem_of_getElem? hx))) (blkOk_by (N := ["value", "item"]) (sc := defScope sfrozen) (by decide +kernel)) hz (fun _ _ _ _ _ => pg_name scFrozen.nd rfl (Or.inl rfl))) rfl scFrozen.nd))) (fun M v r => ?_))
      show Dp K M v (frz (.list ds))
      rw [frz, frzAll_map]; exact rep_TD r
    | tuple ds =>
      obtain ⟨m, rfl⟩ : ∃ m, n = m + 1 := by
        cases n with
        | zero => exact (show False from hp).elim
        | succ m => exact ⟨m, rfl⟩
      obtain ⟨hz, hf⟩ := hp
      refine b_cons (s_if (t_val (e_isD2 (dd := .tuple ds) (d1 := false) (d2 := true) b.isinstance (e_var 0) (e_Tlist b.list) (e_Ttuple b.tuple) (fun _ _ r => r) kb_tuple_list kb_tuple_tuple)) (fun _ => ?_) (fun h => by cases h))
      refine b_cons (s_ret (s := tTup tD) (x := ds.map frz) (e_tupL b.tuple (EL.toE (el_lc (lc_T (s := tD) (t := tD) (own := [("item", 1)]) (xs := ds) ((e_var 0).as (fun M v r => rep_DT r)) 1 (fun s0 H C cl fp m' x hx =>
        e_call ⟨f, fd, hm, F.kp, hb, ih m rfl⟩ hr _ (ea_cons (e_var 1) ea_nil) (hf x (List.mem_of_getElem? hx))) (blkOk_by (N := ["value", "item"]) (sc := defScope sfrozen) (by decide +kernel)) hz (fun _ _ _ _ _ => pg_name scFrozen.nd rfl (Or.inl rfl))) rfl scFrozen.nd))) (fun M v r => ?_))
      show Dp K M v (frz (.tuple ds))
      rw [frz, frzAll_map]; exact rep_TD r
    | none =>
      refine b_cons (s_if (t_val (e_isD2 (dd := .none) (d1 := false) (d2 := false) b.isinstance (e_var 0) (e_Tlist b.list) (e_Ttuple b.tuple) (fun _ _ r => r) kb_NoneType_list kb_NoneType_tuple)) (fun h => by cases h) (fun _ => b_nil ?_))
      exact b_cons (s_ret (e_var 0) (fun M v r => by show Dp K M v (frz .none); rw [frz]; exact r))
    | bool x =>
      refine b_cons (s_if (t_val (e_isD2 (dd := .bool x) (d1 := false) (d2 := false) b.isinstance (e_var 0) (e_Tlist b.list) (e_Ttuple b.tuple) (fun _ _ r => r) kb_bool_list kb_bool_tuple)) (fun h => by cases h) (fun _ => b_nil ?_))
      exact b_cons (s_ret (e_var 0) (fun M v r => by show Dp K M v (frz (.bool x)); rw [frz]; exact r))
    | int x =>
      refine b_cons (s_if (t_val (e_isD2 (dd := .int x) (d1 := false) (d2 := false) b.isinstance (e_var 0) (e_Tlist b.list) (e_Ttuple b.tuple) (fun _ _ r => r) kb_int_list kb_int_tuple)) (fun h => by cases h) (fun _ => b_nil ?_))
      exact b_cons (s_ret (e_var 0) (fun M v r => by show Dp K M v (frz (.int x)); rw [frz]; exact r))
    | str x =>
      refine b_cons (s_if (t_val (e_isD2 (dd := .str x) (d1 := false) (d2 := false) b.isinstance (e_var 0) (e_Tlist b.list) (e_Ttuple b.tuple) (fun _ _ r => r) kb_str_list kb_str_tuple)) (fun h => by cases h) (fun _ => b_nil ?_))
      exact b_cons (s_ret (e_var 0) (fun M v r => by show Dp K M v (frz (.str x)); rw [frz]; exact r))
    | dict kvs => cases n <;> exact (show False from hp).elim
theorem ok_frozen {f : Addr} {fd : FuncData} (F : Fun K "frozen" "frozen" sfrozen f fd) (b : Bi mg) (hm : mg "frozen" = some (.ref f)) (hb : Binds K fd ["value"] []) (n : Nat) : FnOk P w K mg base CX0 (n + 1) f fd ["value"] (spFz K n) := by
  induction n with
  | zero => exact st_frozen F b hm hb 0 fun m e => by cases e
  | succ n ih => exact st_frozen F b hm hb (n + 1) fun m e => by cases e; exact ih
end

section
variable {P : Program} {w : World} {K : Fg} {mg : Str → Option Value} {base : Heap}
theorem scis_whole : FnScope ["value"] ["value"] (defScope sis_whole) := ⟨rfl, rfl, rfl, by decide +kernel, rfl, by decide +kernel, by decide +kernel⟩
theorem okis_whole {f : Addr} {fd : FuncData} (F : Fun K "is_whole" "is_whole" sis_whole f fd) (b : Bi mg) : FnOk P w K mg base CX0 1 f fd ["value"] (spWhole K) := by
  refine fn_ok F scis_whole 0 rfl (fun _ => rfl) (fun cdv A outer s H E hr d hp => ?_)
  refine b_cons (s_ret (e_and (e_isD (dd := d) b.isinstance (e_var 0) (e_Tint b.int) (fun _ _ r => r) (kbI d)) (fun _ => e_one (e_not (e_isD (dd := d) b.isinstance (e_var 0) (e_Tbool b.bool) (fun _ _ r => r) (kbB d))))) (fun M v r => ?_))
  exact ret_is r (wholeD_eq d)
end

def isTargetM (value : Int) (many : Int) : Bool := decide (-3 ≤ value) && decide (value < many)
def spis_target (K : Fg) : Sp := spG K (fun i : Int × Int => [.vl tI i.1, .vl tI i.2]) (fun i => True) tB (fun i => isTargetM i.1 i.2)
section
variable {P : Program} {w : World} {K : Fg} {mg : Str → Option Value} {base : Heap}
theorem sc_is_target : FnScope ["value", "many"] ["value", "many"] (defScope sis_target) := ⟨rfl, rfl, rfl, by decide +kernel, rfl, by decide +kernel, by decide +kernel⟩
theorem okis_target {f : Addr} {fd : FuncData} (F : Fun K "is_target" "is_target" sis_target f fd) (b : Bi mg) (Cis_whole : Fn P w K mg base CX0 1 "is_whole" ["value"] (spWhole K)) : FnOk P w K mg base CX0 2 f fd ["value", "many"] (spis_target K) := by
  refine fn_ok F sc_is_target 0 rfl (fun _ => rfl) (fun cdv A outer s H E hr ⟨value, many⟩ hp => ?_)
  dsimp only at hp ⊢
  refine b_cons (s_ret (e_and (e_call Cis_whole (hr.mono (by decide)) _ (ea_cons (TL.E.as (t := tD) (y := .int _) (e_var 0) (fun _ _ r => dp_I r)) ea_nil) trivial) (fun h => (e_one (e_chain (e_neg e_int) (e_var 0) (e_var 1) cv_le (fun _ => cv_lt) (r0 := ⟨_, op_lt⟩))))) (fun M v r => ?_))
  exact ret_is r (by unfold isTargetM; rfl)
end

def spBook__init__ (K : Fg) (C : Addr) : Sp := spI K C (fun i : PyData × List (List Int) => [.vl tD i.1]) (fun i => (Fit 2 i.1 ∧ frz i.1 = dTab i.2) ∧ Good i.2 40 20) (fun i => bookFs i.2)
theorem target_of {n : Nat} {t : Int} (h : -3 ≤ t ∧ t < n) : isTargetM t (n : Int) = true := by
  unfold isTargetM; simp; omega
section
variable {P : Program} {w : World} {K : Fg} {mg : Str → Option Value} {base : Heap}
theorem sc_Book__init__ : FnScope ["self", "kinds", "copied", "kind", "place"] ["self", "kinds"] (defScope sBook__init__) := ⟨rfl, rfl, rfl, by decide +kernel, rfl, by decide +kernel, by decide +kernel⟩
theorem okBook__init__ {C : Addr} (hC : Cls K C) (hna : NoAttr K C "kinds") {f : Addr} {fd : FuncData} (F : Fun K "__init__" "Book.__init__" sBook__init__ f fd) (b : Bi mg) (Cfrozen : Fn P w K mg base CX0 3 "frozen" ["value"] (spFz K 2)) (Cis_target : Fn P w K mg base CX0 2 "is_target" ["value", "many"] (spis_target K)) : FnOk P w K mg base CX0 4 f fd ["self", "kinds"] (spBook__init__ K C) := by
  refine fn_init F sc_Book__init__ 3 rfl (fun _ => rfl) (fun cdv A outer s H E hr ⟨d, ks⟩ p dx hp => ?_)
  dsimp only at hp ⊢
  obtain ⟨⟨hf, hz⟩, hg⟩ := hp
  have hpos := hg.pos
  have hlen := hg.len
  refine b_cons (s_set 2 (TL.E.as (t := tTup (tTup tI)) (y := ks) (e_call Cfrozen (hr.mono (by decide)) d (ea_cons (e_var 1) ea_nil) hf) (fun M v r => by rw [hz] at r; exact pd_tab r)) ?_ sc_Book__init__.nd)
  refine b_cons (s_if (t_cv (e_lenT b.len (e_var 2)) e_int cv_eqI) (fun h => b_never (by have := of_decide_eq_true h; omega)) (fun h => b_nil ?_))
  refine b_cons (s_forR 3 (fun m G' => G' = [.ob p dx C [], .vl tD d, .vl (tTup (tTup tI)) ks, .un, .un]) _ b.range (e_lenT b.len (e_var 2)) (by omega) (Sub.refl _) rfl ?_ ?_ sc_Book__init__.nd rfl)
  · rintro m _ hm rfl
    have hrow := hg.row _ (ix_mem (xs := ks) (i := (m : Int)) (by omega) (by omega))
    refine b_cons (s_forR 4 (fun j G' => G' = [.ob p dx C [], .vl tD d, .vl (tTup (tTup tI)) ks, .vl tI (m : Int), .un]) _ b.range (e_lenT b.len (e_ixT (e_var 2) (e_var 3) (atI_ix (by omega) (by omega)))) (by omega) (Sub.refl _) rfl ?_ ?_ sc_Book__init__.nd rfl)
    · rintro j _ hj rfl
      have ht := hrow.2 _ (ix_mem (xs := ix ks (m : Int)) (i := (j : Int)) (by omega) (by omega))
      refine b_cons (s_if (t_not (t_val (e_call Cis_target (hr.mono (by decide)) (ix (ix ks (m : Int)) (j : Int), (ks.length : Int)) (ea_cons (e_ixT (e_ixT (e_var 2) (e_var 3) (atI_ix (by omega) (by omega))) (e_var 4) (atI_ix (by omega) (by omega))) (ea_cons (e_lenT b.len (e_var 2)) ea_nil)) trivial))) (fun h => b_never ?_) (fun h => b_nil ?_))
      · dsimp only at h; rw [target_of ht] at h; cases h
      · exact B.weak (b_nil rfl) (.same (.same (.same (.same (.un .nil)))))
    · rintro _ rfl
      exact B.weak (b_nil rfl) (.same (.same (.same (.un (.un .nil)))))
  · rintro _ rfl
    refine b_cons (s_fldNew 0 rfl (e_var 2) hC hna rfl (by decide) ?_)
    exact b_nil rfl
end

theorem Good.mono {ks : List (List Int)} {n e n' e' : Int} (h : Good ks n e) (h1 : n ≤ n') (h2 : e ≤ e') : Good ks n' e' := ⟨h.pos, by have := h.len; omega, fun r hr => ⟨by have := (h.row r hr).1; omega, (h.row r hr).2⟩⟩
theorem changed_len (kinds : List (List Int)) (row : List Int) : (changedM kinds row).length = kinds.length := by
  unfold changedM; split <;> simp
def itFs (i : Int × Int × Int × Bool × List Int × Bool) : List Cl := [⟨tI, i.1⟩, ⟨tI, i.2.1⟩, ⟨tI, i.2.2.1⟩, ⟨tB, i.2.2.2.1⟩, ⟨tLst tI, i.2.2.2.2.1⟩, ⟨tB, i.2.2.2.2.2⟩]
structure ItOk (tabs : List (List (List Int))) (n : Nat) (i : Int × Int × Int × Bool × List Int × Bool) : Prop where
  side : 0 ≤ i.1 ∧ i.1 < 2
  first : 0 ≤ i.2.1 ∧ i.2.1 < n
  deep : 0 ≤ i.2.2.1 ∧ i.2.2.1 ≤ 300
  flag : i.2.2.2.1 = false → i.2.1 = 0
  due : i.2.2.2.2.1 = ix (numM (ix tabs i.1) i.2.2.1.toNat) i.2.1
def splaw (K : Fg) : Sp := spG K (fun i : List Int => [.vl (tSq tI) i]) (fun i => i.length ≤ 63) tB (fun _ => true)
section
variable {P : Program} {w : World} {K : Fg} {mg : Str → Option Value} {base : Heap}
theorem sc_law : FnScope ["script", "head", "cell", "kinds", "tables", "books", "kind", "asked", "k", "row", "first", "deep", "side", "turn", "item", "told", "ways"] ["script"] (defScope slaw) := ⟨rfl, rfl, rfl, by decide +kernel, rfl, by decide +kernel, by decide +kernel⟩
theorem oklaw {C : Addr} (hC : Cls K C) (hna : NoAttr K C "kinds") {f : Addr} {fd : FuncData} (F : Fun K "law" "law" slaw f fd) (b : Bi mg)
    (C_law_digits : Fn P w K mg base CX0 1 "_law_digits" ["cell", "sizes"] (sp_law_digits K)) (C_law_cell : Fn P w K mg base CX0 1 "_law_cell" ["script", "k"] (sp_law_cell K))
    (C_law_book_sizes : Fn P w K mg base CX0 1 "_law_book_sizes" ["n", "e"] (sp_law_book_sizes K)) (C_law_book : Fn P w K mg base CX0 2 "_law_book" ["row", "n", "e"] (sp_law_book K))
    (C_law_broad : Fn P w K mg base CX0 1 "_law_broad" ["row"] (sp_law_broad K)) (C_law_lively : Fn P w K mg base CX0 1 "_law_lively" ["kinds", "row"] (sp_law_lively K))
    (C_law_changed : Fn P w K mg base CX0 1 "_law_changed" ["kinds", "row"] (sp_law_changed K)) (CBook : Mkr P w K mg base 4 "Book" C ["self", "kinds"] (spBook__init__ K C))
    (C_law_numbers : Fn P w K mg base CX0 1 "_law_numbers" ["kinds", "deep"] (sp_law_numbers K)) (C_law_is_small : Fn P w K mg base CX0 2 "_law_is_small" ["kinds", "first", "deep"] (sp_law_is_small K))
    (C_law_same_row : Fn P w K mg base CX0 2 "_law_same_row" ["value", "due"] (sp_law_same_rowL K)) (C_law_stayed : Fn P w K mg base CX0 3 "_law_stayed" ["book", "kinds"] (sp_law_stayed K C))
    (C_law_agree : Fn P w K mg base CX0 2 "_law_agree" ["kinds", "first", "deep", "ways", "due"] (sp_law_agree K))
    (Cfront : FnD P w K mg base CX0 2 "front" ["book", "depth", "start"] 2 ["start"] [.int 0] (spfront K C)) (Ccount_front : FnD P w K mg base CX0 2 "count_front" ["book", "depth", "start"] 2 ["start"] [.int 0] (spcount_front K C)) : FnOk P w K mg base CX0 6 f fd ["script"] (splaw K) := by
  refine fn_ok F sc_law 16 rfl (fun _ => rfl) (fun cdv A outer s H E hr script hp => ?_)
  refine b_cons (s_set 1 (e_call C_law_digits (hr.mono (by decide)) (cellM script 0, [8, 4, 40, 43]) (ea_cons (e_call C_law_cell (hr.mono (by decide)) (script, 0) (ea_cons (e_var 0) (ea_cons e_int ea_nil)) (show script.length ≤ 63 ∧ (0:Int) ≤ 0 ∧ (0:Int) < 100 from ⟨hp, by decide, by decide⟩)) (ea_cons (EL.toE (el_lst (eh_cons e_int (eh_cons e_int (eh_cons e_int (eh_cons e_int eh_nil)))))) ea_nil)) (show ([8, 4, 40, 43] : List Int).length ≤ 3000 ∧ ∀ s ∈ ([8, 4, 40, 43] : List Int), 0 < s ∧ s < 1073741824 from ⟨by decide, by decide⟩)) ?_ sc_law.nd)
  have hh0 := ix_paired (dig_good (cellM script 0) [8, 4, 40, 43] (by decide)) (i := 0) (by omega) (by decide)
  have hhl := digits_len (cellM script 0) [8, 4, 40, 43]
  dsimp only
  generalize digitsM (cellM script 0) [8, 4, 40, 43] = head at hh0 hhl ⊢
  rw [show ix ([8, 4, 40, 43] : List Int) 0 = 8 from rfl] at hh0
  simp only [List.length_cons, List.length_nil] at hhl
  refine b_cons (s_set 2 (e_call C_law_cell (hr.mono (by decide)) (script, 1) (ea_cons (e_var 0) (ea_cons e_int ea_nil)) (show script.length ≤ 63 ∧ (0:Int) ≤ 1 ∧ (1:Int) < 100 from ⟨hp, by decide, by decide⟩)) ?_ sc_law.nd)
  dsimp only
  generalize cellM script 1 = cell
  refine b_cut (fun G' => ∃ ks, Good ks 40 20 ∧ G' = [.vl (tSq tI) script, .vl (tLst tI) head, .vl tI cell, .vl (tTup (tTup tI)) ks, .un, .un, .un, .un, .un, .un, .un, .un, .un, .un, .un, .un, .un]) (s_if (t_cv (e_ixL (e_var 1) e_int (atI_ix (by omega) (by omega))) e_int cv_lt) (fun h => ?_) (fun h => ?_)) ?_
  · refine b_cons (s_set 3 (e_call C_law_book (hr.mono (by decide)) (digitsM cell (bookSizesM 8 4), 8, 4) (ea_cons (e_call C_law_digits (hr.mono (by decide)) (cell, bookSizesM 8 4) (ea_cons (e_var 2) (ea_cons (e_call C_law_book_sizes (hr.mono (by decide)) (8, 4) (ea_cons e_int (ea_cons e_int ea_nil)) (by decide)) ea_nil)) (bookSizes_ok (n := 8) (e := 4) (by omega) (by omega) (by omega) (by omega))) (ea_cons e_int (ea_cons e_int ea_nil))) (show ((2 ≤ (8:Int) ∧ (8:Int) ≤ 40) ∧ 2 ≤ (4:Int) ∧ (4:Int) ≤ 20) ∧ GoodRow (digitsM cell (bookSizesM 8 4)) 8 4 from ⟨by decide, digits_goodRow _ (by omega) (by omega) (by omega) (by omega)⟩)) ?_ sc_law.nd)
    exact b_nil ⟨_, (bookM_good (n := 8) (e := 4) (by omega) (by omega) (digits_goodRow cell (by omega) (by omega) (by omega) (by omega))).mono (by omega) (by omega), rfl⟩
  · refine b_cons (s_if (t_cv (e_ixL (e_var 1) e_int (atI_ix (by omega) (by omega))) e_int cv_eqI) (fun h => ?_) (fun h => ?_))
    · refine b_cons (s_set 3 (e_call C_law_book (hr.mono (by decide)) (digitsM cell (bookSizesM 5 20), 5, 20) (ea_cons (e_call C_law_digits (hr.mono (by decide)) (cell, bookSizesM 5 20) (ea_cons (e_var 2) (ea_cons (e_call C_law_book_sizes (hr.mono (by decide)) (5, 20) (ea_cons e_int (ea_cons e_int ea_nil)) (by decide)) ea_nil)) (bookSizes_ok (n := 5) (e := 20) (by omega) (by omega) (by omega) (by omega))) (ea_cons e_int (ea_cons e_int ea_nil))) (show ((2 ≤ (5:Int) ∧ (5:Int) ≤ 40) ∧ 2 ≤ (20:Int) ∧ (20:Int) ≤ 20) ∧ GoodRow (digitsM cell (bookSizesM 5 20)) 5 20 from ⟨by decide, digits_goodRow _ (by omega) (by omega) (by omega) (by omega)⟩)) ?_ sc_law.nd)
      exact b_nil (b_nil ⟨_, (bookM_good (n := 5) (e := 20) (by omega) (by omega) (digits_goodRow cell (by omega) (by omega) (by omega) (by omega))).mono (by omega) (by omega), rfl⟩)
    · refine b_cons (s_if (t_cv (e_ixL (e_var 1) e_int (atI_ix (by omega) (by omega))) e_int cv_eqI) (fun h => ?_) (fun h => ?_))
      · refine b_cons (s_set 3 (e_call C_law_book (hr.mono (by decide)) (digitsM cell (bookSizesM 40 20), 40, 20) (ea_cons (e_call C_law_digits (hr.mono (by decide)) (cell, bookSizesM 40 20) (ea_cons (e_var 2) (ea_cons (e_call C_law_book_sizes (hr.mono (by decide)) (40, 20) (ea_cons e_int (ea_cons e_int ea_nil)) (by decide)) ea_nil)) (bookSizes_ok (n := 40) (e := 20) (by omega) (by omega) (by omega) (by omega))) (ea_cons e_int (ea_cons e_int ea_nil))) (show ((2 ≤ (40:Int) ∧ (40:Int) ≤ 40) ∧ 2 ≤ (20:Int) ∧ (20:Int) ≤ 20) ∧ GoodRow (digitsM cell (bookSizesM 40 20)) 40 20 from ⟨by decide, digits_goodRow _ (by omega) (by omega) (by omega) (by omega)⟩)) ?_ sc_law.nd)
        exact b_nil (b_nil (b_nil ⟨_, (bookM_good (n := 40) (e := 20) (by omega) (by omega) (digits_goodRow cell (by omega) (by omega) (by omega) (by omega))).mono (by omega) (by omega), rfl⟩))
      · refine b_cons (s_set 3 (e_call C_law_broad (hr.mono (by decide)) (digitsM cell ([2, 20, 20] ++ (List.replicate 40 [12]).flatten)) (ea_cons (e_call C_law_digits (hr.mono (by decide)) (cell, ([2, 20, 20] ++ (List.replicate 40 [12]).flatten)) (ea_cons (e_var 2) (ea_cons (EL.toE (el_cat (EL.toE (el_lst (eh_cons e_int (eh_cons e_int (eh_cons e_int eh_nil))))) (EL.toE (el_rep (EL.toE (el_lst (eh_cons e_int eh_nil))) e_int (by decide) (by decide))) (by decide))) ea_nil)) (show (([2, 20, 20] ++ (List.replicate 40 [12]).flatten) : List Int).length ≤ 3000 ∧ ∀ s ∈ (([2, 20, 20] ++ (List.replicate 40 [12]).flatten) : List Int), 0 < s ∧ s < 1073741824 from ⟨by decide, by decide⟩)) ea_nil) (digits_goodBroad cell)) ?_ sc_law.nd)
        exact b_nil (b_nil (b_nil ⟨_, (broad_good (digits_goodBroad _)).mono (by omega) (by omega), rfl⟩))
  rintro _ ⟨ks0, hg0, rfl⟩
  have hhc : (cut head (some 1) none).length = 3 := by rw [cut_tail, List.length_drop]; omega
  refine b_cons (s_set 3 (e_call C_law_lively (hr.mono (by decide)) (ks0, cut head (some 1) none) (ea_cons (e_var 3) (ea_cons (EL.toE (el_slice (e_var 1) (eo_some e_int) eo_none)) ea_nil)) (by refine ⟨⟨hg0.pos, ?_⟩, ?_⟩ <;> dsimp only; (have := hg0.len; omega); omega)) ?_ sc_law.nd)
  have hg := lively_good (row := cut head (some 1) none) hg0 (by omega)
  dsimp only
  generalize livelyM ks0 (cut head (some 1) none) = ks at hg ⊢
  have hpos := hg.pos
  have hlen := hg.len
  refine b_cons (s_own 4 (el_lst (eh_cons (e_var 3) (eh_cons (e_call C_law_changed (hr.mono (by decide)) (ks, digitsM (cellM script 2) [800, 43]) (ea_cons (e_var 3) (ea_cons (e_call C_law_digits (hr.mono (by decide)) (cellM script 2, [800, 43]) (ea_cons (e_call C_law_cell (hr.mono (by decide)) (script, 2) (ea_cons (e_var 0) (ea_cons e_int ea_nil)) (show script.length ≤ 63 ∧ (0:Int) ≤ 2 ∧ (2:Int) < 100 from ⟨hp, by decide, by decide⟩)) (ea_cons (EL.toE (el_lst (eh_cons e_int (eh_cons e_int eh_nil)))) ea_nil)) (show ([800, 43] : List Int).length ≤ 3000 ∧ ∀ s ∈ ([800, 43] : List Int), 0 < s ∧ s < 1073741824 from ⟨by decide, by decide⟩)) ea_nil)) (by refine ⟨⟨hg.pos, by dsimp only; omega, fun r hr => ?_⟩, by dsimp only; rw [digits_len]; decide⟩; have := (hg.row r hr).1; omega)) eh_nil))) ?_ sc_law.nd)
  have hg2 := changed_good (row := digitsM (cellM script 2) [800, 43]) hg (by omega)
  have hl2 := changed_len ks (digitsM (cellM script 2) [800, 43])
  dsimp only
  generalize changedM ks (digitsM (cellM script 2) [800, 43]) = ks2 at hg2 hl2 ⊢
  refine b_freeze 4 rfl ?_
  have hfit : ∀ T : List (List Int), Good T 40 20 → T.length ≤ 1000000 ∧ ∀ x ∈ T, x.length ≤ 1000000 := fun T g => ⟨by have := g.len; omega, fun x hx => by have := (g.row x hx).1; omega⟩
  have htab : ∀ j : Int, 0 ≤ j → j < 2 → Good (ix [ks, ks2] j) 40 20 ∧ (ix [ks, ks2] j).length = ks.length := fun j j0 j1 => by
    have : j = 0 ∨ j = 1 := by omega
    rcases this with rfl | rfl
    · exact ⟨hg, rfl⟩
    · exact ⟨hg2, hl2⟩
  refine b_cons (s_own 5 (el_lst (eh_cons (TL.E.as (t := tBook C) (y := ks) (e_mk CBook (hr.mono (by decide)) (dTab ks, ks) (ea_cons (TL.E.as (t := tD) (y := dTab ks) (e_var 3) (fun _ _ r => dp_tab r)) ea_nil) (show (Fit 2 (dTab ks) ∧ frz (dTab ks) = dTab ks) ∧ Good ks 40 20 from ⟨⟨fit_tab (hfit ks hg).1 (hfit ks hg).2, frz_dTab ks⟩, hg⟩)) (fun _ _ r => r)) (eh_cons (TL.E.as (t := tBook C) (y := ks2) (e_mk CBook (hr.mono (by decide)) (dTabL ks2, ks2) (ea_cons (TL.E.as (t := tD) (y := dTabL ks2) (EL.toE (el_lc (lc_T (f := fun x => x) (xs := ks2) (own := [("kind", 6)]) (TL.E.is (e_ixL (e_var 4) e_int (atI_ix (by simp only [List.length_cons, List.length_nil]; omega) (by simp only [List.length_cons, List.length_nil]; omega))) rfl) 6 (fun s0 H C cl fp m x hx => EL.toE (el_listT b.list (e_var 6))) (blkOk_by (N := ["script", "head", "cell", "kinds", "tables", "books", "kind", "asked", "k", "row", "first", "deep", "side", "turn", "item", "told", "ways"]) (sc := defScope slaw) (by decide +kernel)) (hfit ks2 hg2).1 (fun _ _ _ _ _ => pg_name sc_law.nd rfl (by first | exact Or.inl rfl | exact Or.inr rfl))) rfl sc_law.nd)) (fun _ _ r => by rw [List.map_id'] at r; exact dp_tabL r)) ea_nil) (show (Fit 2 (dTabL ks2) ∧ frz (dTabL ks2) = dTab ks2) ∧ Good ks2 40 20 from ⟨⟨fit_tabL (hfit ks2 hg2).1 (hfit ks2 hg2).2, frz_dTabL ks2⟩, hg2⟩)) (fun _ _ r => r)) eh_nil))) ?_ sc_law.nd)
  refine b_freeze 5 rfl ?_
  refine b_cons (s_own 7 (el_lst (s := tTu itFs) eh_nil) ?_ sc_law.nd)
  refine b_cons (s_forR 8 (fun m G' => ∃ xs, (∀ it ∈ xs, ItOk [ks, ks2] ks.length it) ∧ xs.length = 2 * m ∧ G' = [.vl (tSq tI) script, .vl (tLst tI) head, .vl tI cell, .vl (tTup (tTup tI)) ks, .vl (tLst (tTup (tTup tI))) [ks, ks2], .vl (tLst (tBook C)) [ks, ks2], .un, .ow (tTu itFs) xs, .un, .un, .un, .un, .un, .un, .un, .un, .un]) _ b.range e_int (by decide) (Sub.refl _) ⟨[], (fun it h => by cases h), rfl, rfl⟩ ?_ ?_ sc_law.nd rfl)
  · rintro m _ hm ⟨xs, hxs, hxl, rfl⟩
    have hmm : 0 ≤ (if (2 : Int) < (m : Int) then 2 else (m : Int)) ∧ (if (2 : Int) < (m : Int) then 2 else (m : Int)) ≤ 2 := by split <;> omega
    refine b_cons (s_set 9 (e_call C_law_digits (hr.mono (by decide)) (cellM script (3 + (if (2 : Int) < (m : Int) then 2 else (m : Int))), [80, 2, 301]) (ea_cons (e_call C_law_cell (hr.mono (by decide)) (script, 3 + (if (2 : Int) < (m : Int) then 2 else (m : Int))) (ea_cons (e_var 0) (ea_cons (e_add e_int (e_min rfl b.min (e_var 8) e_int)) ea_nil)) (show script.length ≤ 63 ∧ (0:Int) ≤ 3 + (if (2 : Int) < (m : Int) then 2 else (m : Int)) ∧ 3 + (if (2 : Int) < (m : Int) then 2 else (m : Int)) < 100 from ⟨hp, by omega, by omega⟩)) (ea_cons (EL.toE (el_lst (eh_cons e_int (eh_cons e_int (eh_cons e_int eh_nil))))) ea_nil)) (show ([80, 2, 301] : List Int).length ≤ 3000 ∧ ∀ s ∈ ([80, 2, 301] : List Int), 0 < s ∧ s < 1073741824 from ⟨by decide, by decide⟩)) ?_ sc_law.nd)
    dsimp only
    have hdg := dig_good (cellM script (3 + (if (2 : Int) < (m : Int) then 2 else (m : Int)))) [80, 2, 301] (by decide)
    have hrl := digits_len (cellM script (3 + (if (2 : Int) < (m : Int) then 2 else (m : Int)))) [80, 2, 301]
    generalize digitsM (cellM script (3 + (if (2 : Int) < (m : Int) then 2 else (m : Int)))) [80, 2, 301] = row at hdg hrl ⊢
    have hr2 := ix_paired hdg (i := 2) (by omega) (by decide)
    rw [show ix ([80, 2, 301] : List Int) 2 = 301 from rfl] at hr2
    simp only [List.length_cons, List.length_nil] at hrl
    refine b_cons (s_set 10 e_int ?_ sc_law.nd)
    refine b_cut (fun G' => ∃ fi : Int, (0 ≤ fi ∧ fi < ks.length) ∧ G' = [.vl (tSq tI) script, .vl (tLst tI) head, .vl tI cell, .vl (tTup (tTup tI)) ks, .vl (tLst (tTup (tTup tI))) [ks, ks2], .vl (tLst (tBook C)) [ks, ks2], .un, .ow (tTu itFs) xs, .vl tI (m : Int), .vl (tLst tI) row, .vl tI fi, .un, .un, .un, .un, .un, .un]) (s_if (t_cv (e_ixL (e_var 9) e_int (atI_ix (by omega) (by omega))) e_int cv_ge) (fun h => ?_) (fun h => ?_)) ?_
    · refine b_cons (s_set 10 (e_mod (e_intI b.int (e_ixL (e_var 9) e_int (atI_ix (by omega) (by omega)))) (e_lenT b.len (e_var 3)) (by omega)) ?_ sc_law.nd)
      exact b_nil ⟨_, ⟨Int.emod_nonneg _ (by omega), Int.emod_lt_of_pos _ (by omega)⟩, rfl⟩
    · exact b_nil ⟨0, by omega, rfl⟩
    rintro _ ⟨f1, hf1, rfl⟩
    refine b_cut (fun G' => ∃ fi : Int, (0 ≤ fi ∧ fi < ks.length) ∧ G' = [.vl (tSq tI) script, .vl (tLst tI) head, .vl tI cell, .vl (tTup (tTup tI)) ks, .vl (tLst (tTup (tTup tI))) [ks, ks2], .vl (tLst (tBook C)) [ks, ks2], .un, .ow (tTu itFs) xs, .vl tI (m : Int), .vl (tLst tI) row, .vl tI fi, .un, .un, .un, .un, .un, .un]) (s_if (t_cv (e_var 8) e_int cv_eqI) (fun h => ?_) (fun h => ?_)) ?_
    · refine b_cons (s_set 10 (e_mod (e_intI b.int (e_add (e_var 10) e_int)) (e_lenT b.len (e_var 3)) (by omega)) ?_ sc_law.nd)
      exact b_nil ⟨_, ⟨Int.emod_nonneg _ (by omega), Int.emod_lt_of_pos _ (by omega)⟩, rfl⟩
    · exact b_nil ⟨f1, hf1, rfl⟩
    rintro _ ⟨fi, hfi, rfl⟩
    have hmod : 0 < ix ([301, 13, 6, 6] : List Int) (m : Int) ∧ ix ([301, 13, 6, 6] : List Int) (m : Int) ≤ 301 := by
      have : m = 0 ∨ m = 1 ∨ m = 2 ∨ m = 3 := by omega
      rcases this with rfl | rfl | rfl | rfl <;> decide
    refine b_cons (s_set 11 (e_mod (e_intI b.int (e_ixL (e_var 9) e_int (atI_ix (by omega) (by omega)))) (e_ixL (EL.toE (el_lst (eh_cons e_int (eh_cons e_int (eh_cons e_int (eh_cons e_int eh_nil)))))) (e_var 8) (atI_ix (by omega) (by simp only [List.length_cons, List.length_nil]; omega))) (by omega)) ?_ sc_law.nd)
    have hd1 : 0 ≤ ix row 2 % ix ([301, 13, 6, 6] : List Int) (m : Int) ∧ ix row 2 % ix ([301, 13, 6, 6] : List Int) (m : Int) ≤ 300 := by
      have a1 := Int.emod_nonneg (ix row 2) (show ix ([301, 13, 6, 6] : List Int) (m : Int) ≠ 0 by omega)
      have a2 := Int.emod_lt_of_pos (ix row 2) hmod.1
      omega
    generalize ix row 2 % ix ([301, 13, 6, 6] : List Int) (m : Int) = d1 at hd1 ⊢
    refine b_cut (fun G' => ∃ de : Int, (0 ≤ de ∧ de ≤ 300) ∧ G' = [.vl (tSq tI) script, .vl (tLst tI) head, .vl tI cell, .vl (tTup (tTup tI)) ks, .vl (tLst (tTup (tTup tI))) [ks, ks2], .vl (tLst (tBook C)) [ks, ks2], .un, .ow (tTu itFs) xs, .vl tI (m : Int), .vl (tLst tI) row, .vl tI fi, .vl tI de, .un, .un, .un, .un, .un]) (s_if (TW.toT (w_and (t_cv (e_var 8) e_int cv_eqI) (fun h => (w_and1 (t_cv (e_ixL (e_var 9) e_int (atI_ix (by omega) (by omega))) e_int cv_gt))))) (fun h => ?_) (fun h => ?_)) ?_
    · exact b_cons (s_set 11 e_int (b_nil ⟨300, by omega, rfl⟩) sc_law.nd)
    · exact b_nil ⟨d1, hd1, rfl⟩
    rintro _ ⟨d2, hd2, rfl⟩
    refine b_cut (fun G' => ∃ de : Int, (0 ≤ de ∧ de ≤ 300) ∧ G' = [.vl (tSq tI) script, .vl (tLst tI) head, .vl tI cell, .vl (tTup (tTup tI)) ks, .vl (tLst (tTup (tTup tI))) [ks, ks2], .vl (tLst (tBook C)) [ks, ks2], .un, .ow (tTu itFs) xs, .vl tI (m : Int), .vl (tLst tI) row, .vl tI fi, .vl tI de, .un, .un, .un, .un, .un]) (s_if (TW.toT (w_and (t_cv (e_var 8) e_int cv_eqI) (fun h => (w_and1 (t_cv (e_sum rfl b.sum (EL.toE (el_lc (lc_T (s := tTup tI) (t := tI) (f := fun x : List Int => (x.length : Int)) (own := [("kind", 6)]) (e_var 3) 6 (fun s0 H C cl fp m x hx => e_lenT b.len (e_var 6)) (blkOk_by (N := ["script", "head", "cell", "kinds", "tables", "books", "kind", "asked", "k", "row", "first", "deep", "side", "turn", "item", "told", "ways"]) (sc := defScope slaw) (by decide +kernel)) (by omega) (fun _ _ _ _ _ => pg_name sc_law.nd rfl (by first | exact Or.inl rfl | exact Or.inr rfl))) rfl sc_law.nd))) e_int cv_gt))))) (fun h => ?_) (fun h => ?_)) ?_
    · refine b_cons (s_set 11 (e_mod (e_intI b.int (e_ixL (e_var 9) e_int (atI_ix (by omega) (by omega)))) e_int (by decide)) (b_nil ⟨_, ?_, rfl⟩) sc_law.nd)
      have a1 := Int.emod_nonneg (ix row 2) (show (21 : Int) ≠ 0 by omega)
      have a2 := Int.emod_lt_of_pos (ix row 2) (show (0 : Int) < 21 by omega)
      omega
    · exact b_nil ⟨d2, hd2, rfl⟩
    rintro _ ⟨de, hde, rfl⟩
    refine b_cons (s_forR 12 (fun j G' => ∃ xs, (∀ it ∈ xs, ItOk [ks, ks2] ks.length it) ∧ xs.length = 2 * m + j ∧ G' = [.vl (tSq tI) script, .vl (tLst tI) head, .vl tI cell, .vl (tTup (tTup tI)) ks, .vl (tLst (tTup (tTup tI))) [ks, ks2], .vl (tLst (tBook C)) [ks, ks2], .un, .ow (tTu itFs) xs, .vl tI (m : Int), .vl (tLst tI) row, .vl tI fi, .vl tI de, .un, .un, .un, .un, .un]) _ b.range e_int (by decide) (Sub.refl _) ⟨xs, hxs, hxl, rfl⟩ ?_ ?_ sc_law.nd rfl)
    · rintro j _ hj ⟨ys, hys, hyl, rfl⟩
      obtain ⟨gt, gl⟩ := htab (j : Int) (by omega) (by omega)
      have hnl := numM_len (ix [ks, ks2] (j : Int)) de.toNat
      refine b_cons (s_app 7 rfl (e_tu ((j : Int), fi, de, decide (0 < fi) || decide (ix row 1 = 0), ix (numM (ix [ks, ks2] (j : Int)) de.toNat) fi, decide (1 < (m : Int))) (ea_cons (e_var 12) (ea_cons (e_var 10) (ea_cons (e_var 11) (ea_cons (e_or (e_cv (e_var 10) e_int cv_gt) (fun h => e_one (e_cv (e_ixL (e_var 9) e_int (atI_ix (by omega) (by omega))) e_int cv_eqI))) (ea_cons (e_ixL (e_call C_law_numbers (hr.mono (by decide)) (ix [ks, ks2] (j : Int), de) (ea_cons (e_ixL (e_var 4) (e_var 12) (atI_ix (by omega) (by simp only [List.length_cons, List.length_nil]; omega))) (ea_cons (e_var 11) ea_nil)) (show Good (ix [ks, ks2] (j : Int)) 40 20 ∧ 0 ≤ de ∧ de ≤ 300 from ⟨gt, hde⟩)) (e_var 10) (atI_ix (by omega) (by show fi < ((numM (ix [ks, ks2] (j : Int)) de.toNat).length : Int); omega))) (ea_cons (e_cv (e_var 8) e_int cv_gt) ea_nil))))))) (by omega) ?_)
      refine B.weak (b_nil ⟨_, ?_, ?_, rfl⟩) (.same (.same (.same (.same (.same (.same (.un (.same (.same (.same (.same (.same (.un (.un (.un (.un (.un .nil)))))))))))))))))
      · intro it hit
        rcases List.mem_append.mp hit with z | z
        · exact hys it z
        · rw [List.mem_singleton.mp z]
          refine ⟨⟨by show (0:Int) ≤ (j : Int); omega, by show (j : Int) < 2; omega⟩, hfi, hde, fun h => ?_, rfl⟩
          have h' : (decide (0 < fi) || decide (ix row 1 = 0)) = false := h
          simp at h'
          show fi = 0
          omega
      · rw [List.length_append]; simp; omega
    · rintro _ ⟨ys, hys, hyl, rfl⟩
      exact B.weak (b_nil ⟨ys, hys, by rw [hyl]; show 2 * m + 2 = 2 * (m + 1); omega, rfl⟩) (.same (.same (.same (.same (.same (.same (.un (.same (.un (.un (.un (.un (.un (.un (.un (.un (.un .nil)))))))))))))))))
  · rintro _ ⟨xs, hxs, hxl, rfl⟩
    refine b_freeze 7 rfl ?_
    refine b_cons (s_forR 13 (fun m G' => G' = [.vl (tSq tI) script, .vl (tLst tI) head, .vl tI cell, .vl (tTup (tTup tI)) ks, .vl (tLst (tTup (tTup tI))) [ks, ks2], .vl (tLst (tBook C)) [ks, ks2], .un, .vl (tLst (tTu itFs)) xs, .un, .un, .un, .un, .un, .un, .un, .un, .un]) _ b.range e_int (by decide) (Sub.refl _) rfl ?_ ?_ sc_law.nd rfl)
    · rintro m _ hm rfl
      refine b_cons (s_forL 14 (fun j G' => G' = [.vl (tSq tI) script, .vl (tLst tI) head, .vl tI cell, .vl (tTup (tTup tI)) ks, .vl (tLst (tTup (tTup tI))) [ks, ks2], .vl (tLst (tBook C)) [ks, ks2], .un, .vl (tLst (tTu itFs)) xs, .un, .un, .un, .un, .un, .vl tI (m : Int), .un, .un, .un]) _ (e_var 7) (Sub.refl _) rfl ?_ ?_ sc_law.nd rfl)
      · rintro j it _ hx rfl
        have hit := hxs it (List.mem_of_getElem? hx)
        obtain ⟨side, first, deep, flag, due, sm⟩ := it
        obtain ⟨hs, hf, hd, hfl, hdu⟩ := hit
        dsimp only at hs hf hd hfl hdu
        obtain ⟨gt, gl⟩ := htab side hs.1 hs.2
        have hcnt := count_is gt hf.1 (by omega) deep.toNat
        have hsz : side < (([ks, ks2] : List (List (List Int))).length : Int) := by simp only [List.length_cons, List.length_nil]; omega
        have hat : atI [ks, ks2] side = some (ix [ks, ks2] side) := atI_ix (by simp only [List.length_cons, List.length_nil]; omega) hsz
        refine b_cut (fun G' => G' = [.vl (tSq tI) script, .vl (tLst tI) head, .vl tI cell, .vl (tTup (tTup tI)) ks, .vl (tLst (tTup (tTup tI))) [ks, ks2], .vl (tLst (tBook C)) [ks, ks2], .un, .vl (tLst (tTu itFs)) xs, .un, .un, .un, .un, .un, .vl tI (m : Int), .vl (tTu itFs) (side, first, deep, flag, due, sm), .vl (tTup tI) (ix (numM (ix [ks, ks2] side) deep.toNat) first), .un]) (s_if (t_val (e_tuI flag (e_var 14) e_int)) (fun h => ?_) (fun h => ?_)) ?_
        · refine b_cons (s_set 15 (TL.E.is (e_callK Ccount_front (hr.mono (by decide)) (ix [ks, ks2] side, deep, first) (ea_cons (e_ixL (e_var 5) (e_tuI side (e_var 14) e_int) hat) (ea_cons (e_tuI deep (e_var 14) e_int) ea_nil)) (ek_cons (e_tuI first (e_var 14) e_int) ek_nil) rfl rfl rfl (show Good (ix [ks, ks2] side) 40 20 ∧ (0 ≤ deep ∧ deep ≤ 300) ∧ 0 ≤ first ∧ first < (ix [ks, ks2] side).length from ⟨gt, hd, hf.1, by omega⟩)) hcnt) ?_ sc_law.nd)
          exact b_nil rfl
        · have hf0 : first = 0 := hfl h
          subst hf0
          refine b_cons (s_set 15 (TL.E.is (e_callD Ccount_front (hr.mono (by decide)) (ix [ks, ks2] side, deep, 0) (ea_cons (e_ixL (e_var 5) (e_tuI side (e_var 14) e_int) hat) (ea_cons (e_tuI deep (e_var 14) e_int) ea_nil)) (ds := [.vl tI 0]) (fun M => .cons rfl .nil) rfl (show Good (ix [ks, ks2] side) 40 20 ∧ (0 ≤ deep ∧ deep ≤ 300) ∧ (0 : Int) ≤ 0 ∧ (0 : Int) < (ix [ks, ks2] side).length from ⟨gt, hd, by omega, by omega⟩)) hcnt) ?_ sc_law.nd)
          exact b_nil rfl
        rintro _ rfl
        have hdl := numM_row (ix [ks, ks2] side) deep.toNat _ (ix_mem (xs := numM (ix [ks, ks2] side) deep.toNat) hf.1 (by rw [numM_len]; omega))
        refine b_cons (s_if (t_not (t_val (e_call C_law_same_row (hr.mono (by decide)) (ix (numM (ix [ks, ks2] side) deep.toNat) first, due) (ea_cons (e_var 15) (ea_cons (e_tuI due (e_var 14) e_int) ea_nil)) (show ix (numM (ix [ks, ks2] side) deep.toNat) first = due ∧ due.length ≤ 1000 from ⟨hdu.symm, by rw [hdu]; omega⟩)))) (fun h => by cases h) (fun _ => b_nil ?_))
        refine b_cons (s_if (TW.toT (w_and (t_val (e_tuI sm (e_var 14) e_int)) (fun h => w_and1 (t_val (e_call C_law_is_small (hr.mono (by decide)) (ix [ks, ks2] side, first, deep) (ea_cons (e_ixL (e_var 4) (e_tuI side (e_var 14) e_int) hat) (ea_cons (e_tuI first (e_var 14) e_int) (ea_cons (e_tuI deep (e_var 14) e_int) ea_nil))) (show Good (ix [ks, ks2] side) 40 20 ∧ (0 ≤ first ∧ first < (ix [ks, ks2] side).length) ∧ 0 ≤ deep ∧ deep ≤ 300 from ⟨gt, ⟨hf.1, by omega⟩, hd⟩)))))) (fun h => ?_) (fun h => ?_))
        · have hsm : smallM (ix [ks, ks2] side) first deep = true := ((Bool.and_eq_true _ _).mp h).2
          refine b_cons (s_set 16 (e_callK Cfront (hr.mono (by decide)) (ix [ks, ks2] side, deep, first) (ea_cons (e_ixL (e_var 5) (e_tuI side (e_var 14) e_int) hat) (ea_cons (e_tuI deep (e_var 14) e_int) ea_nil)) (ek_cons (e_tuI first (e_var 14) e_int) ek_nil) rfl rfl rfl (show Good (ix [ks, ks2] side) 40 20 ∧ (0 ≤ deep ∧ deep ≤ 300) ∧ (0 ≤ first ∧ first < (ix [ks, ks2] side).length) ∧ ∀ d : Nat, (d : Int) ≤ deep → (placesM (ix [ks, ks2] side) first d).length ≤ 1000 from ⟨gt, hd, ⟨hf.1, by omega⟩, fun d hd' => by have a := places_len gt hf.1 (by omega) d; have b := small_of hsm d hd'; omega⟩)) ?_ sc_law.nd)
          refine b_cons (s_if (t_not (t_val (e_call C_law_agree (hr.mono (by decide)) (ix [ks, ks2] side, first, deep, (placesM (ix [ks, ks2] side) first deep.toNat).map (fun p => p.1), due) (ea_cons (e_ixL (e_var 4) (e_tuI side (e_var 14) e_int) hat) (ea_cons (e_tuI first (e_var 14) e_int) (ea_cons (e_tuI deep (e_var 14) e_int) (ea_cons (e_var 16) (ea_cons (e_tuI due (e_var 14) e_int) ea_nil))))) (show AgOk (ix [ks, ks2] side) first deep ((placesM (ix [ks, ks2] side) first deep.toNat).map fun p => p.1) due from by rw [hdu]; exact agree_is gt hf.1 (by omega) hd.1)))) (fun h => by cases h) (fun _ => b_nil ?_))
          exact b_nil (B.weak (b_nil rfl) (.same (.same (.same (.same (.same (.same (.un (.same (.un (.un (.un (.un (.un (.same (.un (.un (.un .nil))))))))))))))))))
        · exact b_nil (B.weak (b_nil rfl) (.same (.same (.same (.same (.same (.same (.un (.same (.un (.un (.un (.un (.un (.same (.un (.un (.un .nil))))))))))))))))))
      · rintro _ rfl
        exact B.weak (b_nil rfl) (.same (.same (.same (.same (.same (.same (.un (.same (.un (.un (.un (.un (.un (.un (.un (.un (.un .nil)))))))))))))))))
    · rintro _ rfl
      have e0 : ix [ks, ks2] 0 = ks := rfl
      have e1 : ix [ks, ks2] 1 = ks2 := rfl
      exact b_cons (s_ret (e_and (e_call C_law_stayed (hr.mono (by decide)) (ks, ks) (ea_cons (TL.E.is (e_ixL (e_var 5) e_int (atI_ix (by simp only [List.length_cons, List.length_nil]; omega) (by simp only [List.length_cons, List.length_nil]; omega))) e0) (ea_cons (TL.E.is (e_ixL (e_var 4) e_int (atI_ix (by simp only [List.length_cons, List.length_nil]; omega) (by simp only [List.length_cons, List.length_nil]; omega))) e0) ea_nil)) (show ks = ks ∧ Good ks 40 20 from ⟨rfl, hg⟩)) (fun _ => e_one (e_call C_law_stayed (hr.mono (by decide)) (ks2, ks2) (ea_cons (TL.E.is (e_ixL (e_var 5) e_int (atI_ix (by simp only [List.length_cons, List.length_nil]; omega) (by simp only [List.length_cons, List.length_nil]; omega))) e1) (ea_cons (TL.E.is (e_ixL (e_var 4) e_int (atI_ix (by simp only [List.length_cons, List.length_nil]; omega) (by simp only [List.length_cons, List.length_nil]; omega))) e1) ea_nil)) (show ks2 = ks2 ∧ Good ks2 40 20 from ⟨rfl, hg2⟩)))) (fun M v r => r))
end

theorem all_mk {l : PySem.W.OpenLaw} {w : World} {K : PySem.W.Frag} {h : Heap} {mg : Str → Option Value} {fa ADBook f0 f1 f2 f3 f4 f5 f6 f7 f8 f9 f10 f11 f12 f13 f14 f15 f16 f17 f18 f19 f20 f21 f22 D5 D7 : Addr} {tk5 tk7 : Tok} (X : K.In h) (G : h.Ns mainGlobals mg) (hfa : mg "law" = some (.ref fa))
    {od0 an0 od1 an1 od2 an2 od3 an3 od4 an4 od5 an5 od6 an6 od7 an7 od8 an8 od9 an9 od10 an10 od11 an11 od12 an12 od13 an13 od14 an14 od15 an15 od16 an16 od17 an17 od18 an18 od19 an19 od20 an20 od21 an21 od22 an22 : Option Addr} {sl0 sl1 sl2 sl3 sl4 sl5 sl6 sl7 sl8 sl9 sl10 sl11 sl12 sl13 sl14 sl15 sl16 sl17 sl18 sl19 sl20 sl21 sl22 : Array (Option Value)} {oc0 dc0 pm0 cd0 ct0 kV0 oc1 dc1 pm1 cd1 ct1 kV1 oc2 dc2 pm2 cd2 ct2 kV2 oc3 dc3 pm3 cd3 ct3 kV3 oc4 dc4 pm4 cd4 ct4 kV4 oc5 dc5 pm5 cd5 ct5 oc6 dc6 pm6 cd6 ct6 kV6 oc7 dc7 pm7 cd7 ct7 oc8 dc8 pm8 cd8 ct8 kV8 oc9 dc9 pm9 cd9 ct9 kV9 oc10 dc10 pm10 cd10 ct10 kV10 oc11 dc11 pm11 cd11 ct11 kV11 oc12 dc12 pm12 cd12 ct12 kV12 oc13 dc13 pm13 cd13 ct13 kV13 oc14 dc14 pm14 cd14 ct14 kV14 oc15 dc15 pm15 cd15 ct15 kV15 oc16 dc16 pm16 cd16 ct16 kV16 oc17 dc17 pm17 cd17 ct17 kV17 oc18 dc18 pm18 cd18 ct18 kV18 oc19 dc19 pm19 cd19 ct19 kV19 oc20 dc20 pm20 cd20 ct20 kV20 oc21 dc21 pm21 cd21 ct21 kV21 oc22 dc22 pm22 cd22 ct22 kV22 : Value}
    (aDBook : PySem.W.nsIn K mainGlobals "Book" = some (some (.ref ADBook)))
    (a0 : PySem.W.nsIn K mainGlobals "frozen" = some (some (.ref f0)))
    (l0 : K.lookup f0 = some ⟨oc0, od0, .func (PySem.W.fnOf "frozen" "frozen" (defArgs sfrozen) (defBody sfrozen) (defScope sfrozen) .none kV0 dc0 pm0 an0 cd0 ct0), sl0⟩)
    (c0 : PySem.W.codeIn K cd0 "frozen" = true)
    (k0 : PySem.W.keepIn K (.ref f0) = true)
    (a1 : PySem.W.nsIn K mainGlobals "is_whole" = some (some (.ref f1)))
    (l1 : K.lookup f1 = some ⟨oc1, od1, .func (PySem.W.fnOf "is_whole" "is_whole" (defArgs sis_whole) (defBody sis_whole) (defScope sis_whole) .none kV1 dc1 pm1 an1 cd1 ct1), sl1⟩)
    (c1 : PySem.W.codeIn K cd1 "is_whole" = true)
    (k1 : PySem.W.keepIn K (.ref f1) = true)
    (a2 : PySem.W.nsIn K mainGlobals "is_target" = some (some (.ref f2)))
    (l2 : K.lookup f2 = some ⟨oc2, od2, .func (PySem.W.fnOf "is_target" "is_target" (defArgs sis_target) (defBody sis_target) (defScope sis_target) .none kV2 dc2 pm2 an2 cd2 ct2), sl2⟩)
    (c2 : PySem.W.codeIn K cd2 "is_target" = true)
    (k2 : PySem.W.keepIn K (.ref f2) = true)
    (a3 : PySem.W.findIn K (.ref ADBook) "__init__" = some (some (.ref f3)))
    (i3 : PySem.W.isFn K (.ref f3) = true)
    (l3 : K.lookup f3 = some ⟨oc3, od3, .func (PySem.W.fnOf "__init__" "Book.__init__" (defArgs sBook__init__) (defBody sBook__init__) (defScope sBook__init__) .none kV3 dc3 pm3 an3 cd3 ct3), sl3⟩)
    (c3 : PySem.W.codeIn K cd3 "Book.__init__" = true)
    (k3 : PySem.W.keepIn K (.ref f3) = true)
    (a4 : PySem.W.nsIn K mainGlobals "continued" = some (some (.ref f4)))
    (l4 : K.lookup f4 = some ⟨oc4, od4, .func (PySem.W.fnOf "continued" "continued" (defArgs scontinued) (defBody scontinued) (defScope scontinued) .none kV4 dc4 pm4 an4 cd4 ct4), sl4⟩)
    (c4 : PySem.W.codeIn K cd4 "continued" = true)
    (k4 : PySem.W.keepIn K (.ref f4) = true)
    (a5 : PySem.W.nsIn K mainGlobals "front" = some (some (.ref f5)))
    (l5 : K.lookup f5 = some ⟨oc5, od5, .func (PySem.W.fnOf "front" "front" (defArgs sfront) (defBody sfront) (defScope sfront) .none (.ref D5) dc5 pm5 an5 cd5 ct5), sl5⟩)
    (c5 : PySem.W.codeIn K cd5 "front" = true)
    (k5 : PySem.W.keepIn K (.ref f5) = true)
    (q5 : PySem.W.nsIn K D5 "start" = some (some (.int 0 tk5)))
    (a6 : PySem.W.nsIn K mainGlobals "next_counts" = some (some (.ref f6)))
    (l6 : K.lookup f6 = some ⟨oc6, od6, .func (PySem.W.fnOf "next_counts" "next_counts" (defArgs snext_counts) (defBody snext_counts) (defScope snext_counts) .none kV6 dc6 pm6 an6 cd6 ct6), sl6⟩)
    (c6 : PySem.W.codeIn K cd6 "next_counts" = true)
    (k6 : PySem.W.keepIn K (.ref f6) = true)
    (a7 : PySem.W.nsIn K mainGlobals "count_front" = some (some (.ref f7)))
    (l7 : K.lookup f7 = some ⟨oc7, od7, .func (PySem.W.fnOf "count_front" "count_front" (defArgs scount_front) (defBody scount_front) (defScope scount_front) .none (.ref D7) dc7 pm7 an7 cd7 ct7), sl7⟩)
    (c7 : PySem.W.codeIn K cd7 "count_front" = true)
    (k7 : PySem.W.keepIn K (.ref f7) = true)
    (q7 : PySem.W.nsIn K D7 "start" = some (some (.int 0 tk7)))
    (a8 : PySem.W.nsIn K mainGlobals "_law_whole" = some (some (.ref f8)))
    (l8 : K.lookup f8 = some ⟨oc8, od8, .func (PySem.W.fnOf "_law_whole" "_law_whole" (defArgs s_law_whole) (defBody s_law_whole) (defScope s_law_whole) .none kV8 dc8 pm8 an8 cd8 ct8), sl8⟩)
    (c8 : PySem.W.codeIn K cd8 "_law_whole" = true)
    (k8 : PySem.W.keepIn K (.ref f8) = true)
    (a9 : PySem.W.nsIn K mainGlobals "_law_cell" = some (some (.ref f9)))
    (l9 : K.lookup f9 = some ⟨oc9, od9, .func (PySem.W.fnOf "_law_cell" "_law_cell" (defArgs s_law_cell) (defBody s_law_cell) (defScope s_law_cell) .none kV9 dc9 pm9 an9 cd9 ct9), sl9⟩)
    (c9 : PySem.W.codeIn K cd9 "_law_cell" = true)
    (k9 : PySem.W.keepIn K (.ref f9) = true)
    (a10 : PySem.W.nsIn K mainGlobals "_law_digits" = some (some (.ref f10)))
    (l10 : K.lookup f10 = some ⟨oc10, od10, .func (PySem.W.fnOf "_law_digits" "_law_digits" (defArgs s_law_digits) (defBody s_law_digits) (defScope s_law_digits) .none kV10 dc10 pm10 an10 cd10 ct10), sl10⟩)
    (c10 : PySem.W.codeIn K cd10 "_law_digits" = true)
    (k10 : PySem.W.keepIn K (.ref f10) = true)
    (a11 : PySem.W.nsIn K mainGlobals "_law_book_sizes" = some (some (.ref f11)))
    (l11 : K.lookup f11 = some ⟨oc11, od11, .func (PySem.W.fnOf "_law_book_sizes" "_law_book_sizes" (defArgs s_law_book_sizes) (defBody s_law_book_sizes) (defScope s_law_book_sizes) .none kV11 dc11 pm11 an11 cd11 ct11), sl11⟩)
    (c11 : PySem.W.codeIn K cd11 "_law_book_sizes" = true)
    (k11 : PySem.W.keepIn K (.ref f11) = true)
    (a12 : PySem.W.nsIn K mainGlobals "_law_target" = some (some (.ref f12)))
    (l12 : K.lookup f12 = some ⟨oc12, od12, .func (PySem.W.fnOf "_law_target" "_law_target" (defArgs s_law_target) (defBody s_law_target) (defScope s_law_target) .none kV12 dc12 pm12 an12 cd12 ct12), sl12⟩)
    (c12 : PySem.W.codeIn K cd12 "_law_target" = true)
    (k12 : PySem.W.keepIn K (.ref f12) = true)
    (a13 : PySem.W.nsIn K mainGlobals "_law_book" = some (some (.ref f13)))
    (l13 : K.lookup f13 = some ⟨oc13, od13, .func (PySem.W.fnOf "_law_book" "_law_book" (defArgs s_law_book) (defBody s_law_book) (defScope s_law_book) .none kV13 dc13 pm13 an13 cd13 ct13), sl13⟩)
    (c13 : PySem.W.codeIn K cd13 "_law_book" = true)
    (k13 : PySem.W.keepIn K (.ref f13) = true)
    (a14 : PySem.W.nsIn K mainGlobals "_law_broad" = some (some (.ref f14)))
    (l14 : K.lookup f14 = some ⟨oc14, od14, .func (PySem.W.fnOf "_law_broad" "_law_broad" (defArgs s_law_broad) (defBody s_law_broad) (defScope s_law_broad) .none kV14 dc14 pm14 an14 cd14 ct14), sl14⟩)
    (c14 : PySem.W.codeIn K cd14 "_law_broad" = true)
    (k14 : PySem.W.keepIn K (.ref f14) = true)
    (a15 : PySem.W.nsIn K mainGlobals "_law_lively" = some (some (.ref f15)))
    (l15 : K.lookup f15 = some ⟨oc15, od15, .func (PySem.W.fnOf "_law_lively" "_law_lively" (defArgs s_law_lively) (defBody s_law_lively) (defScope s_law_lively) .none kV15 dc15 pm15 an15 cd15 ct15), sl15⟩)
    (c15 : PySem.W.codeIn K cd15 "_law_lively" = true)
    (k15 : PySem.W.keepIn K (.ref f15) = true)
    (a16 : PySem.W.nsIn K mainGlobals "_law_changed" = some (some (.ref f16)))
    (l16 : K.lookup f16 = some ⟨oc16, od16, .func (PySem.W.fnOf "_law_changed" "_law_changed" (defArgs s_law_changed) (defBody s_law_changed) (defScope s_law_changed) .none kV16 dc16 pm16 an16 cd16 ct16), sl16⟩)
    (c16 : PySem.W.codeIn K cd16 "_law_changed" = true)
    (k16 : PySem.W.keepIn K (.ref f16) = true)
    (a17 : PySem.W.nsIn K mainGlobals "_law_numbers" = some (some (.ref f17)))
    (l17 : K.lookup f17 = some ⟨oc17, od17, .func (PySem.W.fnOf "_law_numbers" "_law_numbers" (defArgs s_law_numbers) (defBody s_law_numbers) (defScope s_law_numbers) .none kV17 dc17 pm17 an17 cd17 ct17), sl17⟩)
    (c17 : PySem.W.codeIn K cd17 "_law_numbers" = true)
    (k17 : PySem.W.keepIn K (.ref f17) = true)
    (a18 : PySem.W.nsIn K mainGlobals "_law_is_small" = some (some (.ref f18)))
    (l18 : K.lookup f18 = some ⟨oc18, od18, .func (PySem.W.fnOf "_law_is_small" "_law_is_small" (defArgs s_law_is_small) (defBody s_law_is_small) (defScope s_law_is_small) .none kV18 dc18 pm18 an18 cd18 ct18), sl18⟩)
    (c18 : PySem.W.codeIn K cd18 "_law_is_small" = true)
    (k18 : PySem.W.keepIn K (.ref f18) = true)
    (a19 : PySem.W.nsIn K mainGlobals "_law_same_row" = some (some (.ref f19)))
    (l19 : K.lookup f19 = some ⟨oc19, od19, .func (PySem.W.fnOf "_law_same_row" "_law_same_row" (defArgs s_law_same_row) (defBody s_law_same_row) (defScope s_law_same_row) .none kV19 dc19 pm19 an19 cd19 ct19), sl19⟩)
    (c19 : PySem.W.codeIn K cd19 "_law_same_row" = true)
    (k19 : PySem.W.keepIn K (.ref f19) = true)
    (a20 : PySem.W.nsIn K mainGlobals "_law_stayed" = some (some (.ref f20)))
    (l20 : K.lookup f20 = some ⟨oc20, od20, .func (PySem.W.fnOf "_law_stayed" "_law_stayed" (defArgs s_law_stayed) (defBody s_law_stayed) (defScope s_law_stayed) .none kV20 dc20 pm20 an20 cd20 ct20), sl20⟩)
    (c20 : PySem.W.codeIn K cd20 "_law_stayed" = true)
    (k20 : PySem.W.keepIn K (.ref f20) = true)
    (a21 : PySem.W.nsIn K mainGlobals "_law_agree" = some (some (.ref f21)))
    (l21 : K.lookup f21 = some ⟨oc21, od21, .func (PySem.W.fnOf "_law_agree" "_law_agree" (defArgs s_law_agree) (defBody s_law_agree) (defScope s_law_agree) .none kV21 dc21 pm21 an21 cd21 ct21), sl21⟩)
    (c21 : PySem.W.codeIn K cd21 "_law_agree" = true)
    (k21 : PySem.W.keepIn K (.ref f21) = true)
    (a22 : PySem.W.nsIn K mainGlobals "law" = some (some (.ref f22)))
    (l22 : K.lookup f22 = some ⟨oc22, od22, .func (PySem.W.fnOf "law" "law" (defArgs slaw) (defBody slaw) (defScope slaw) .none kV22 dc22 pm22 an22 cd22 ct22), sl22⟩)
    (c22 : PySem.W.codeIn K cd22 "law" = true)
    (k22 : PySem.W.keepIn K (.ref f22) = true)
    (pgBook : PySem.W.plainGet K ADBook Str.empty = true)
    (hdBook : PySem.W.hasDictIn K ADBook = true)
    (poBook : PySem.W.plainOver K ADBook = true)
    (saBook : PySem.W.findIn K (.ref ADBook) "__setattr__" = some (some (.builtin "object.__setattr__")))
    (mkBook : PySem.W.makesIn K ADBook = true)
    (kcBook : PySem.W.keepIn K (.ref ADBook) = true)
    (naBook_kinds : PySem.W.findIn K (.ref ADBook) "kinds" = some none)
    (z_len : PySem.W.nsIn K mainGlobals "len" = some none)
    (z_int : PySem.W.nsIn K mainGlobals "int" = some none)
    (z_min : PySem.W.nsIn K mainGlobals "min" = some none)
    (z_max : PySem.W.nsIn K mainGlobals "max" = some none)
    (z_range : PySem.W.nsIn K mainGlobals "range" = some none)
    (z_list : PySem.W.nsIn K mainGlobals "list" = some none)
    (z_tuple : PySem.W.nsIn K mainGlobals "tuple" = some none)
    (z_isinstance : PySem.W.nsIn K mainGlobals "isinstance" = some none)
    (z_str : PySem.W.nsIn K mainGlobals "str" = some none)
    (z_bool : PySem.W.nsIn K mainGlobals "bool" = some none)
    (z_sum : PySem.W.nsIn K mainGlobals "sum" = some none)
    (z_sorted : PySem.W.nsIn K mainGlobals "sorted" = some none)
    (z_repr : PySem.W.nsIn K mainGlobals "repr" = some none)
    (z_iter : PySem.W.nsIn K mainGlobals "iter" = some none)
    (z_enumerate : PySem.W.nsIn K mainGlobals "enumerate" = some none)
    (z_zip : PySem.W.nsIn K mainGlobals "zip" = some none)
    (z_reversed : PySem.W.nsIn K mainGlobals "reversed" = some none)
    (z_any : PySem.W.nsIn K mainGlobals "any" = some none)
    (z_all : PySem.W.nsIn K mainGlobals "all" = some none)
    (z_abs : PySem.W.nsIn K mainGlobals "abs" = some none)
    (z_set : PySem.W.nsIn K mainGlobals "set" = some none)
    (z_dict : PySem.W.nsIn K mainGlobals "dict" = some none)
    (z_ValueError : PySem.W.nsIn K mainGlobals "ValueError" = some none) :
    ∃ fd : FuncData, (∀ (s : Shared) (v : Value), BindsTo s fd ⟨[v], []⟩ [("script", v)]) ∧ ∀ base : Heap, K.In base → base.Ns mainGlobals mg → FnOk l.prog w K mg base CX0 6 fa fd ["script"] (splaw K) := by
  have e := hfa.symm.trans (PySem.W.mg_of X G a22)
  cases e
  have b : Bi mg := ⟨PySem.W.mg_none_of X G z_len, PySem.W.mg_none_of X G z_int, PySem.W.mg_none_of X G z_min, PySem.W.mg_none_of X G z_max, PySem.W.mg_none_of X G z_range, PySem.W.mg_none_of X G z_list, PySem.W.mg_none_of X G z_tuple, PySem.W.mg_none_of X G z_isinstance, PySem.W.mg_none_of X G z_str, PySem.W.mg_none_of X G z_bool, PySem.W.mg_none_of X G z_sum, PySem.W.mg_none_of X G z_sorted, PySem.W.mg_none_of X G z_repr, PySem.W.mg_none_of X G z_iter, PySem.W.mg_none_of X G z_enumerate, PySem.W.mg_none_of X G z_zip, PySem.W.mg_none_of X G z_reversed, PySem.W.mg_none_of X G z_any, PySem.W.mg_none_of X G z_all, PySem.W.mg_none_of X G z_abs, PySem.W.mg_none_of X G z_set, PySem.W.mg_none_of X G z_dict, PySem.W.mg_none_of X G z_ValueError⟩
  have clsBook : Cls K ADBook := ⟨pgBook, hdBook, poBook, saBook⟩
  have F0 := fun_mk (st := sfrozen) l0 c0 k0
  have b0 := F0.binds (ps := ["value"]) fun _ _ _ _ _ _ us hl => match us, hl with | [_], _ => rfl
  have F1 := fun_mk (st := sis_whole) l1 c1 k1
  have b1 := F1.binds (ps := ["value"]) fun _ _ _ _ _ _ us hl => match us, hl with | [_], _ => rfl
  have F2 := fun_mk (st := sis_target) l2 c2 k2
  have b2 := F2.binds (ps := ["value", "many"]) fun _ _ _ _ _ _ us hl => match us, hl with | [_, _], _ => rfl
  have F3 := fun_mk (st := sBook__init__) l3 c3 k3
  have b3 := F3.binds (ps := ["self", "kinds"]) fun _ _ _ _ _ _ us hl => match us, hl with | [_, _], _ => rfl
  have F4 := fun_mk (st := scontinued) l4 c4 k4
  have b4 := F4.binds (ps := ["kinds", "places"]) fun _ _ _ _ _ _ us hl => match us, hl with | [_, _], _ => rfl
  have F5 : FunD K "front" "front" (defArgs sfront) (defBody sfront) (defScope sfront) [] [("start", .int 0)] f5 _ := funD_mk (st := sfront) l5 c5 k5 q5
  have G5 : Fun K "front" "front" sfront f5 _ := fun_mk (st := sfront) l5 c5 k5
  have F6 := fun_mk (st := snext_counts) l6 c6 k6
  have b6 := F6.binds (ps := ["kinds", "counts"]) fun _ _ _ _ _ _ us hl => match us, hl with | [_, _], _ => rfl
  have F7 : FunD K "count_front" "count_front" (defArgs scount_front) (defBody scount_front) (defScope scount_front) [] [("start", .int 0)] f7 _ := funD_mk (st := scount_front) l7 c7 k7 q7
  have G7 : Fun K "count_front" "count_front" scount_front f7 _ := fun_mk (st := scount_front) l7 c7 k7
  have F8 := fun_mk (st := s_law_whole) l8 c8 k8
  have b8 := F8.binds (ps := ["value"]) fun _ _ _ _ _ _ us hl => match us, hl with | [_], _ => rfl
  have F9 := fun_mk (st := s_law_cell) l9 c9 k9
  have b9 := F9.binds (ps := ["script", "k"]) fun _ _ _ _ _ _ us hl => match us, hl with | [_, _], _ => rfl
  have F10 := fun_mk (st := s_law_digits) l10 c10 k10
  have b10 := F10.binds (ps := ["cell", "sizes"]) fun _ _ _ _ _ _ us hl => match us, hl with | [_, _], _ => rfl
  have F11 := fun_mk (st := s_law_book_sizes) l11 c11 k11
  have b11 := F11.binds (ps := ["n", "e"]) fun _ _ _ _ _ _ us hl => match us, hl with | [_, _], _ => rfl
  have F12 := fun_mk (st := s_law_target) l12 c12 k12
  have b12 := F12.binds (ps := ["digit", "k", "many", "j"]) fun _ _ _ _ _ _ us hl => match us, hl with | [_, _, _, _], _ => rfl
  have F13 := fun_mk (st := s_law_book) l13 c13 k13
  have b13 := F13.binds (ps := ["row", "n", "e"]) fun _ _ _ _ _ _ us hl => match us, hl with | [_, _, _], _ => rfl
  have F14 := fun_mk (st := s_law_broad) l14 c14 k14
  have b14 := F14.binds (ps := ["row"]) fun _ _ _ _ _ _ us hl => match us, hl with | [_], _ => rfl
  have F15 := fun_mk (st := s_law_lively) l15 c15 k15
  have b15 := F15.binds (ps := ["kinds", "row"]) fun _ _ _ _ _ _ us hl => match us, hl with | [_, _], _ => rfl
  have F16 := fun_mk (st := s_law_changed) l16 c16 k16
  have b16 := F16.binds (ps := ["kinds", "row"]) fun _ _ _ _ _ _ us hl => match us, hl with | [_, _], _ => rfl
  have F17 := fun_mk (st := s_law_numbers) l17 c17 k17
  have b17 := F17.binds (ps := ["kinds", "deep"]) fun _ _ _ _ _ _ us hl => match us, hl with | [_, _], _ => rfl
  have F18 := fun_mk (st := s_law_is_small) l18 c18 k18
  have b18 := F18.binds (ps := ["kinds", "first", "deep"]) fun _ _ _ _ _ _ us hl => match us, hl with | [_, _, _], _ => rfl
  have F19 := fun_mk (st := s_law_same_row) l19 c19 k19
  have b19 := F19.binds (ps := ["value", "due"]) fun _ _ _ _ _ _ us hl => match us, hl with | [_, _], _ => rfl
  have F20 := fun_mk (st := s_law_stayed) l20 c20 k20
  have b20 := F20.binds (ps := ["book", "kinds"]) fun _ _ _ _ _ _ us hl => match us, hl with | [_, _], _ => rfl
  have F21 := fun_mk (st := s_law_agree) l21 c21 k21
  have b21 := F21.binds (ps := ["kinds", "first", "deep", "ways", "due"]) fun _ _ _ _ _ _ us hl => match us, hl with | [_, _, _, _, _], _ => rfl
  have F22 := fun_mk (st := slaw) l22 c22 k22
  refine ⟨PySem.W.fnOf "law" "law" (defArgs slaw) (defBody slaw) (defScope slaw) .none kV22 dc22 pm22 an22 cd22 ct22, fun s v => .of_eq rfl, fun base _ _ => ?_⟩
  have Cfrozen : Fn l.prog w K mg base CX0 3 "frozen" ["value"] (spFz K 2) := fn_in X G a0 F0 b0 (Ea.ok_frozen F0 b (PySem.W.mg_of X G a0) b0 2)
  have Cis_whole : Fn l.prog w K mg base CX0 1 "is_whole" ["value"] (spWhole K) := fn_in X G a1 F1 b1 (okis_whole F1 b)
  have Cis_target : Fn l.prog w K mg base CX0 2 "is_target" ["value", "many"] (spis_target K) := fn_in X G a2 F2 b2 (okis_target F2 b Cis_whole)
  have CBook : Mkr l.prog w K mg base 4 "Book" ADBook ["self", "kinds"] (spBook__init__ K ADBook) := ⟨f3, _, ⟨mkBook, a3, i3, kcBook⟩, okBook__init__ clsBook naBook_kinds F3 b Cfrozen Cis_target, PySem.W.mg_of X G aDBook, b3⟩
  have Ccontinued : Fn l.prog w K mg base CX0 1 "continued" ["kinds", "places"] (spcontinued K) := fn_in X G a4 F4 b4 (okcontinued F4 b)
  have Cfront : FnD l.prog w K mg base CX0 2 "front" ["book", "depth", "start"] 2 ["start"] [.int 0] (spfront K ADBook) := fnD_in X G a5 F5 rfl (fun D doc pm an cdv ct us ks h1 h2 => match us, ks, h1, h2 with | [_, _], [_], _, _ => ⟨_, _, _, _, _, _, rfl, rfl, rfl⟩) (fun kV doc pm an cdv ct us ws h1 h2 => match us, ws, h1, h2 with | [_, _], [_], _, _ => rfl) (okfront clsBook naBook_kinds G5 b Ccontinued)
  have Cnext_counts : Fn l.prog w K mg base CX0 1 "next_counts" ["kinds", "counts"] (spnext_counts K) := fn_in X G a6 F6 b6 (oknext_counts F6 b)
  have Ccount_front : FnD l.prog w K mg base CX0 2 "count_front" ["book", "depth", "start"] 2 ["start"] [.int 0] (spcount_front K ADBook) := fnD_in X G a7 F7 rfl (fun D doc pm an cdv ct us ks h1 h2 => match us, ks, h1, h2 with | [_, _], [_], _, _ => ⟨_, _, _, _, _, _, rfl, rfl, rfl⟩) (fun kV doc pm an cdv ct us ws h1 h2 => match us, ws, h1, h2 with | [_, _], [_], _, _ => rfl) (okcount_front clsBook naBook_kinds G7 b Cnext_counts)
  have C_law_whole : Fn l.prog w K mg base CX0 1 "_law_whole" ["value"] (spWhole K) := fn_in X G a8 F8 b8 (ok_law_whole F8 b)
  have C_law_cell : Fn l.prog w K mg base CX0 1 "_law_cell" ["script", "k"] (sp_law_cell K) := fn_in X G a9 F9 b9 (ok_law_cell F9 b)
  have C_law_digits : Fn l.prog w K mg base CX0 1 "_law_digits" ["cell", "sizes"] (sp_law_digits K) := fn_in X G a10 F10 b10 (ok_law_digits F10 b)
  have C_law_book_sizes : Fn l.prog w K mg base CX0 1 "_law_book_sizes" ["n", "e"] (sp_law_book_sizes K) := fn_in X G a11 F11 b11 (ok_law_book_sizes F11 b)
  have C_law_target : Fn l.prog w K mg base CX0 1 "_law_target" ["digit", "k", "many", "j"] (sp_law_target K) := fn_in X G a12 F12 b12 (ok_law_target F12 b)
  have C_law_book : Fn l.prog w K mg base CX0 2 "_law_book" ["row", "n", "e"] (sp_law_book K) := fn_in X G a13 F13 b13 (ok_law_book F13 b C_law_target)
  have C_law_broad : Fn l.prog w K mg base CX0 1 "_law_broad" ["row"] (sp_law_broad K) := fn_in X G a14 F14 b14 (ok_law_broad F14 b)
  have C_law_lively : Fn l.prog w K mg base CX0 1 "_law_lively" ["kinds", "row"] (sp_law_lively K) := fn_in X G a15 F15 b15 (ok_law_lively F15 b)
  have C_law_changed : Fn l.prog w K mg base CX0 1 "_law_changed" ["kinds", "row"] (sp_law_changed K) := fn_in X G a16 F16 b16 (ok_law_changed F16 b)
  have C_law_numbers : Fn l.prog w K mg base CX0 1 "_law_numbers" ["kinds", "deep"] (sp_law_numbers K) := fn_in X G a17 F17 b17 (ok_law_numbers F17 b)
  have C_law_is_small : Fn l.prog w K mg base CX0 2 "_law_is_small" ["kinds", "first", "deep"] (sp_law_is_small K) := fn_in X G a18 F18 b18 (ok_law_is_small F18 b C_law_numbers)
  have C_law_same_rowT : Fn l.prog w K mg base CX0 2 "_law_same_row" ["value", "due"] (sp_law_same_rowT K) := fn_in X G a19 F19 b19 (ok_law_same_rowT F19 b C_law_whole)
  have C_law_same_rowL : Fn l.prog w K mg base CX0 2 "_law_same_row" ["value", "due"] (sp_law_same_rowL K) := fn_in X G a19 F19 b19 (ok_law_same_rowL F19 b C_law_whole)
  have C_law_stayed : Fn l.prog w K mg base CX0 3 "_law_stayed" ["book", "kinds"] (sp_law_stayed K ADBook) := fn_in X G a20 F20 b20 (ok_law_stayed clsBook naBook_kinds F20 b C_law_same_rowT)
  have C_law_agree : Fn l.prog w K mg base CX0 2 "_law_agree" ["kinds", "first", "deep", "ways", "due"] (sp_law_agree K) := fn_in X G a21 F21 b21 (ok_law_agree F21 b C_law_whole)
  exact oklaw clsBook naBook_kinds F22 b C_law_digits C_law_cell C_law_book_sizes C_law_book C_law_broad C_law_lively C_law_changed CBook C_law_numbers C_law_is_small C_law_same_rowL C_law_stayed C_law_agree Cfront Ccount_front
theorem walk {l : PySem.W.OpenLaw} {q : Program} {loose : List Str} {XP : (Str → Option Value) → Heap → Prop} {YP : World → Heap → Prop} {d : DefRec} {K : Params → PySem.W.Frag} (hn : l.most = some 63) (hdf : d.params.defaults = [])
    (hY : ∀ (w : World) (h : Heap), YP w h → (K w.params).In h)
    (F : ∀ (w : World) (mg : Str → Option Value) (fa : Addr) (h : Heap), (K w.params).In h → h.Ns mainGlobals mg → mg d.name = some (.ref fa) →
      ∃ fd : FuncData, (∀ (s : Shared) (u : Value), BindsTo s fd ⟨[u], []⟩ [("script", u)]) ∧ ∀ base : Heap, (K w.params).In base → base.Ns mainGlobals mg → FnOk l.prog w (K w.params) mg base CX0 6 fa fd ["script"] (splaw (K w.params))) :
    PySem.W.WalkO q loose XP YP l.row.toRowW d [] (fun f vs => PySem.call f vs) :=
  L2.walk_of (n := 63) (k := 6) (x := "script") (CX := fun _ => CX0) (sp := fun w => splaw (K w.params)) hn (by decide) hdf ⟨rfl, by decide, by decide⟩ hY F (fun w H a ns hl m hS => law_sp hl hS) fun _ _ _ _ _ z => z
end Ea

open PySem PySem.W PyProof.Rows in
set_option maxRecDepth 100000 in
set_option maxHeartbeats 0 in
theorem PySem.Challenge.cw_endsalike_k02_front_counts_holds : PySem.Challenge.rw_endsalike_k02_front_counts.Holds := by
  w_on; o_law; k_head; (case hw => w_witness2)
  k_fill
  refine Ea.walk (l := PySem.Challenge.rw_endsalike_k02_front_counts) rfl rfl (fun w h Y => PySem.W.kIn_of Y) ?F
  case F =>
    intro w mg fa h KX G hmg
    refine' Ea.all_mk KX G hmg ?aDBook ?a0 ?l0 ?c0 ?k0 ?a1 ?l1 ?c1 ?k1 ?a2 ?l2 ?c2 ?k2 ?a3 ?i3 ?l3 ?c3 ?k3 ?a4 ?l4 ?c4 ?k4 ?a5 ?l5 ?c5 ?k5 ?q5 ?a6 ?l6 ?c6 ?k6 ?a7 ?l7 ?c7 ?k7 ?q7 ?a8 ?l8 ?c8 ?k8 ?a9 ?l9 ?c9 ?k9 ?a10 ?l10 ?c10 ?k10 ?a11 ?l11 ?c11 ?k11 ?a12 ?l12 ?c12 ?k12 ?a13 ?l13 ?c13 ?k13 ?a14 ?l14 ?c14 ?k14 ?a15 ?l15 ?c15 ?k15 ?a16 ?l16 ?c16 ?k16 ?a17 ?l17 ?c17 ?k17 ?a18 ?l18 ?c18 ?k18 ?a19 ?l19 ?c19 ?k19 ?a20 ?l20 ?c20 ?k20 ?a21 ?l21 ?c21 ?k21 ?a22 ?l22 ?c22 ?k22 ?pgBook ?hdBook ?poBook ?saBook ?mkBook ?kcBook ?naBook_kinds ?z_len ?z_int ?z_min ?z_max ?z_range ?z_list ?z_tuple ?z_isinstance ?z_str ?z_bool ?z_sum ?z_sorted ?z_repr ?z_iter ?z_enumerate ?z_zip ?z_reversed ?z_any ?z_all ?z_abs ?z_set ?z_dict ?z_ValueError
    (case aDBook => k_is)
    (case a0 => k_is)
    (case l0 => k_is)
    (case c0 => k_is)
    (case k0 => k_is)
    (case a1 => k_is)
    (case l1 => k_is)
    (case c1 => k_is)
    (case k1 => k_is)
    (case a2 => k_is)
    (case l2 => k_is)
    (case c2 => k_is)
    (case k2 => k_is)
    (case a3 => k_is)
    (case i3 => k_is)
    (case l3 => k_is)
    (case c3 => k_is)
    (case k3 => k_is)
    (case a4 => k_is)
    (case l4 => k_is)
    (case c4 => k_is)
    (case k4 => k_is)
    (case a5 => k_is)
    (case l5 => k_is)
    (case c5 => k_is)
    (case k5 => k_is)
    (case q5 => k_is)
    (case a6 => k_is)
    (case l6 => k_is)
    (case c6 => k_is)
    (case k6 => k_is)
    (case a7 => k_is)
    (case l7 => k_is)
    (case c7 => k_is)
    (case k7 => k_is)
    (case q7 => k_is)
    (case a8 => k_is)
    (case l8 => k_is)
    (case c8 => k_is)
    (case k8 => k_is)
    (case a9 => k_is)
    (case l9 => k_is)
    (case c9 => k_is)
    (case k9 => k_is)
    (case a10 => k_is)
    (case l10 => k_is)
    (case c10 => k_is)
    (case k10 => k_is)
    (case a11 => k_is)
    (case l11 => k_is)
    (case c11 => k_is)
    (case k11 => k_is)
    (case a12 => k_is)
    (case l12 => k_is)
    (case c12 => k_is)
    (case k12 => k_is)
    (case a13 => k_is)
    (case l13 => k_is)
    (case c13 => k_is)
    (case k13 => k_is)
    (case a14 => k_is)
    (case l14 => k_is)
    (case c14 => k_is)
    (case k14 => k_is)
    (case a15 => k_is)
    (case l15 => k_is)
    (case c15 => k_is)
    (case k15 => k_is)
    (case a16 => k_is)
    (case l16 => k_is)
    (case c16 => k_is)
    (case k16 => k_is)
    (case a17 => k_is)
    (case l17 => k_is)
    (case c17 => k_is)
    (case k17 => k_is)
    (case a18 => k_is)
    (case l18 => k_is)
    (case c18 => k_is)
    (case k18 => k_is)
    (case a19 => k_is)
    (case l19 => k_is)
    (case c19 => k_is)
    (case k19 => k_is)
    (case a20 => k_is)
    (case l20 => k_is)
    (case c20 => k_is)
    (case k20 => k_is)
    (case a21 => k_is)
    (case l21 => k_is)
    (case c21 => k_is)
    (case k21 => k_is)
    (case a22 => k_is)
    (case l22 => k_is)
    (case c22 => k_is)
    (case k22 => k_is)
    (case pgBook => k_is)
    (case hdBook => k_is)
    (case poBook => k_is)
    (case saBook => k_is)
    (case mkBook => k_is)
    (case kcBook => k_is)
    (case naBook_kinds => k_is)
    (case z_len => k_is)
    (case z_int => k_is)
    (case z_min => k_is)
    (case z_max => k_is)
    (case z_range => k_is)
    (case z_list => k_is)
    (case z_tuple => k_is)
    (case z_isinstance => k_is)
    (case z_str => k_is)
    (case z_bool => k_is)
    (case z_sum => k_is)
    (case z_sorted => k_is)
    (case z_repr => k_is)
    (case z_iter => k_is)
    (case z_enumerate => k_is)
    (case z_zip => k_is)
    (case z_reversed => k_is)
    (case z_any => k_is)
    (case z_all => k_is)
    (case z_abs => k_is)
    (case z_set => k_is)
    (case z_dict => k_is)
    (case z_ValueError => k_is)
#print axioms PySem.Challenge.cw_endsalike_k02_front_counts_holds
