import PyProof.Rows.All
import Wide.All
import OpenK.AllK
import Wide.FinOn
import HandS.ForMost
import HandS.ForExc
import HandS.IsInst
import HandS.Flow
import HandS.Wide
import HandS.TupAny
import HandS.Defaults
import HandS.MakeKwOnly
import KE.GoesEnum
import HandS.SlotsOwn
import HandS.Codes
import HandS.Iter
import HandS.Walk
import HandS.Conv
import HandS.SortRule
import HandS.TupSets
import HandS.RevRange
import PySem.Challenge.RW_endsalike_k08_live_and_landings
set_option Elab.async false
set_option linter.all false
set_option maxRecDepth 100000
set_option maxHeartbeats 1000000
/-! A typed layer over HandS: what a piece of code is worth in a context of typed slots; heaps are hidden. -/
namespace TL
open PySem L2

abbrev Fg := PySem.W.Frag

/-! ### readings as they are -/
def wE (X : Cx) (e : Expr) : TE := fun σ H Q => ∃ te, PE X e te ∧ te σ H Q
def wT (X : Cx) (e : Expr) : TT := fun σ H Q => ∃ te, PT X e te ∧ te σ H Q
def wA (X : Cx) (es : List Expr) : TA := fun σ H Q => ∃ te, PA X es te ∧ te σ H Q
def w1 (X : Cx) (st : Stmt) : TS := fun D σ H => ∃ t, PS X st t ∧ t D σ H
def wS (X : Cx) (sts : List Stmt) : TS := fun D σ H => ∃ t, PSs X sts t ∧ t D σ H
theorem pe_w {X : Cx} {e : Expr} : PE X e (wE X e) := ⟨fun pins s σ H Q I ⟨_, p, h⟩ => p.run pins s σ H Q I h⟩
theorem pt_w {X : Cx} {e : Expr} : PT X e (wT X e) := ⟨fun pins s σ H Q I ⟨_, p, h⟩ => p.run pins s σ H Q I h⟩
theorem pa_w {X : Cx} {es : List Expr} : PA X es (wA X es) := ⟨fun pos pins s σ H Q I ⟨_, p, h⟩ => p.run pos pins s σ H Q I h⟩
theorem ps_w {X : Cx} {st : Stmt} : PS X st (w1 X st) := ⟨fun pins s σ H D I ⟨_, p, h⟩ => p.run pins s σ H D I h⟩
theorem pss_w {X : Cx} {sts : List Stmt} : PSs X sts (wS X sts) := ⟨fun pins s σ H D I ⟨_, p, h⟩ => p.run pins s σ H D I h⟩

/-! ### heaps: H what stands, M ⊆ H what is frozen -/
structure Nx (M H M' H' : Hp) : Prop where
  ex : Same H H'
  vx : Same M M'
  sub : Same M' H'
  fr : ∀ a, M a = none → H a ≠ none → M' a = none
theorem Nx.refl {M H : Hp} (h : Same M H) : Nx M H M H := ⟨Same.refl _, Same.refl _, h, fun _ q _ => q⟩
theorem Nx.trans {M H M1 H1 M2 H2 : Hp} (a : Nx M H M1 H1) (b : Nx M1 H1 M2 H2) : Nx M H M2 H2 :=
  ⟨a.ex.trans b.ex, a.vx.trans b.vx, b.sub, fun x h q => b.fr x (a.fr x h q) fun z => by
    cases e : H x with
    | none => exact q e
    | some o => rw [a.ex x o e] at z; cases z⟩
theorem same_new {H : Hp} {p : Addr} {o : HO} (h : H p = none) : Same H (upd H p o) := fun a u e => by
  rw [upd_ne (ne_of_none e h)]; exact e
theorem same_updB {M H : Hp} {p : Addr} {o : HO} (h : Same M H) (hp : H p = none) : Same (upd M p o) (upd H p o) := fun a u e => by
  by_cases z : a = p
  · subst z; rw [upd_same] at e ⊢; exact e
  · rw [upd_ne z] at e ⊢; exact h a u e
theorem same_none {M H : Hp} (h : Same M H) {p : Addr} (hp : H p = none) : M p = none := h.free hp
theorem Nx.new {M H : Hp} (h : Same M H) {p : Addr} {o : HO} (hp : H p = none) : Nx M H (upd M p o) (upd H p o) :=
  ⟨same_new hp, same_new (same_none h hp), same_updB h hp, fun a e q => by
    rw [upd_ne (fun z => q (by rw [z]; exact hp))]; exact e⟩

/-! ### types -/
structure Ty (α : Type) where
  rep : Fg → Hp → V → α → Prop
  ext : ∀ {K : Fg} {M M' : Hp} {v : V} {x : α}, Same M M' → rep K M v x → rep K M' v x
theorem paired_imp {α β : Type} {F G : α → β → Prop} (f : ∀ a b, F a b → G a b) : ∀ {l₁ : List α} {l₂ : List β}, Paired F l₁ l₂ → Paired G l₁ l₂
  | _, _, .nil => .nil
  | _, _, .cons h t => .cons (f _ _ h) (paired_imp f t)
theorem paired_get {α β : Type} {F : α → β → Prop} : ∀ {l₁ : List α} {l₂ : List β} {i : Nat} {b : β}, Paired F l₁ l₂ → l₂[i]? = some b → ∃ a, l₁[i]? = some a ∧ F a b
  | _, _, _, _, .nil, e => by simp at e
  | _, _, 0, _, .cons r _, e => by simp at e; subst e; exact ⟨_, rfl, r⟩
  | _, _, i + 1, x, .cons _ t, e => by
    obtain ⟨u, h1, h2⟩ := paired_get (i := i) (b := x) t (by simpa using e)
    exact ⟨u, by simpa using h1, h2⟩
theorem paired_get' {α β : Type} {F : α → β → Prop} : ∀ {l₁ : List α} {l₂ : List β} {i : Nat} {a : α}, Paired F l₁ l₂ → l₁[i]? = some a → ∃ b, l₂[i]? = some b ∧ F a b
  | _, _, _, _, .nil, e => by simp at e
  | _, _, 0, _, .cons r _, e => by simp at e; subst e; exact ⟨_, rfl, r⟩
  | _, _, i + 1, x, .cons _ t, e => by
    obtain ⟨u, h1, h2⟩ := paired_get' (i := i) (a := x) t (by simpa using e)
    exact ⟨u, by simpa using h1, h2⟩
theorem paired_app {α β : Type} {F : α → β → Prop} : ∀ {l₁ m₁ : List α} {l₂ m₂ : List β}, Paired F l₁ l₂ → Paired F m₁ m₂ → Paired F (l₁ ++ m₁) (l₂ ++ m₂)
  | _, _, _, _, .nil, h => h
  | _, _, _, _, .cons r t, h => .cons r (paired_app t h)
theorem paired_take {α β : Type} {F : α → β → Prop} : ∀ {l₁ : List α} {l₂ : List β} (n : Nat), Paired F l₁ l₂ → Paired F (l₁.take n) (l₂.take n)
  | _, _, 0, _ => .nil
  | _, _, _ + 1, .nil => .nil
  | _, _, n + 1, .cons r t => .cons r (paired_take n t)
theorem paired_drop {α β : Type} {F : α → β → Prop} : ∀ {l₁ : List α} {l₂ : List β} (n : Nat), Paired F l₁ l₂ → Paired F (l₁.drop n) (l₂.drop n)
  | _, _, 0, h => h
  | _, _, _ + 1, .nil => .nil
  | _, _, n + 1, .cons _ t => paired_drop n t
theorem paired_set {α β : Type} {F : α → β → Prop} {a : α} {b : β} (h : F a b) : ∀ {l₁ : List α} {l₂ : List β} (i : Nat), Paired F l₁ l₂ → Paired F (l₁.set i a) (l₂.set i b)
  | _, _, _, .nil => .nil
  | _, _, 0, .cons _ t => .cons h t
  | _, _, i + 1, .cons q t => .cons q (paired_set h i t)

def tI : Ty Int := ⟨fun _ _ v i => v = .int i, fun _ h => h⟩
def tB : Ty Bool := ⟨fun _ _ v b => v = .bl b, fun _ h => h⟩
def tS : Ty Str := ⟨fun _ _ v s => v = .str s, fun _ h => h⟩
def tN : Ty Unit := ⟨fun _ _ v _ => v = .non, fun _ h => h⟩
theorem rd_ext {M M' : Hp} {a : Addr} {u : HO} (e : Same M M') (h : Rd M a u) : Rd M' a u := by
  rcases h with h | ⟨o, h⟩
  · exact .inl (e _ _ h)
  · exact .inr ⟨o, e _ _ h⟩
theorem sqT_ext {K : Fg} {M M' : Hp} {a : Addr} {xs : List V} (e : Same M M') (h : SqT K M a xs) : SqT K M' a xs := by
  rcases h with h | h
  · exact .inl (rd_ext e h)
  · exact .inr h
theorem sqL_ext {K : Fg} {M M' : Hp} {a : Addr} {xs : List V} (e : Same M M') (h : SqL K M a xs) : SqL K M' a xs := e.seq h
/-- a tuple, a list that is frozen, the script -/
def tTup {α : Type} (t : Ty α) : Ty (List α) := ⟨fun K M v xs => ∃ a vs, v = .ref a ∧ SqT K M a vs ∧ Paired (t.rep K M) vs xs,
  fun e ⟨a, vs, h1, h2, h3⟩ => ⟨a, vs, h1, sqT_ext e h2, paired_imp (fun _ _ q => t.ext e q) h3⟩⟩
def tLst {α : Type} (t : Ty α) : Ty (List α) := ⟨fun K M v xs => ∃ a vs, v = .ref a ∧ M a = some (.lst vs) ∧ Paired (t.rep K M) vs xs,
  fun e ⟨a, vs, h1, h2, h3⟩ => ⟨a, vs, h1, e _ _ h2, paired_imp (fun _ _ q => t.ext e q) h3⟩⟩
def tSq {α : Type} (t : Ty α) : Ty (List α) := ⟨fun K M v xs => ∃ a vs, v = .ref a ∧ SqL K M a vs ∧ Paired (t.rep K M) vs xs,
  fun e ⟨a, vs, h1, h2, h3⟩ => ⟨a, vs, h1, sqL_ext e h2, paired_imp (fun _ _ q => t.ext e q) h3⟩⟩
def tP2 {α β : Type} (s : Ty α) (t : Ty β) : Ty (α × β) := ⟨fun K M v x => ∃ a v1 v2, v = .ref a ∧ SqT K M a [v1, v2] ∧ s.rep K M v1 x.1 ∧ t.rep K M v2 x.2,
  fun e ⟨a, v1, v2, h1, h2, h3, h4⟩ => ⟨a, v1, v2, h1, sqT_ext e h2, s.ext e h3, t.ext e h4⟩⟩
def tP3 {α β γ : Type} (s : Ty α) (t : Ty β) (u : Ty γ) : Ty (α × β × γ) := ⟨fun K M v x => ∃ a v1 v2 v3, v = .ref a ∧ SqT K M a [v1, v2, v3] ∧ s.rep K M v1 x.1 ∧ t.rep K M v2 x.2.1 ∧ u.rep K M v3 x.2.2,
  fun e ⟨a, v1, v2, v3, h1, h2, h3, h4, h5⟩ => ⟨a, v1, v2, v3, h1, sqT_ext e h2, s.ext e h3, t.ext e h4, u.ext e h5⟩⟩
def tP4 {α β γ δ : Type} (s : Ty α) (t : Ty β) (u : Ty γ) (w : Ty δ) : Ty (α × β × γ × δ) := ⟨fun K M v x => ∃ a v1 v2 v3 v4, v = .ref a ∧ SqT K M a [v1, v2, v3, v4] ∧ s.rep K M v1 x.1 ∧ t.rep K M v2 x.2.1 ∧ u.rep K M v3 x.2.2.1 ∧ w.rep K M v4 x.2.2.2,
  fun e ⟨a, v1, v2, v3, v4, h1, h2, h3, h4, h5, h6⟩ => ⟨a, v1, v2, v3, v4, h1, sqT_ext e h2, s.ext e h3, t.ext e h4, u.ext e h5, w.ext e h6⟩⟩
/-- None, or such a one -/
def tO {α : Type} (t : Ty α) : Ty (Option α) := ⟨fun K M v x => match x with | none => v = .non | some y => t.rep K M v y, fun {K M M' v x} e h => by
  cases x with
  | none => exact h
  | some y => exact t.ext e h⟩
mutual
theorem dp_ext {K : Fg} {M M' : Hp} (e : Same M M') : ∀ (d : PyData) (v : V), Dp K M v d → Dp K M' v d
  | .none, _, h => by cases h; exact .non
  | .bool b, _, h => by cases h; exact .bl b
  | .int i, _, h => by cases h; exact .int i
  | .str s, _, h => by cases h; exact .str s
  | .list ds, _, h => by
    cases h with
    | lst h1 h2 => exact .lst (sqL_ext e h1) (dpAll_ext e ds _ h2)
  | .tuple ds, _, h => by
    cases h with
    | tup h1 h2 => exact .tup (sqT_ext e h1) (dpAll_ext e ds _ h2)
  | .dict kvs, _, h => by cases h
theorem dpAll_ext {K : Fg} {M M' : Hp} (e : Same M M') : ∀ (ds : List PyData) (vs : List V), DpAll K M vs ds → DpAll K M' vs ds
  | [], _, h => by cases h; exact .nil
  | d :: ds, _, h => by
    cases h with
    | cons h1 h2 => exact .cons (dp_ext e d _ h1) (dpAll_ext e ds _ h2)
end
/-- data of any shape -/
def tD : Ty PyData := ⟨fun K M v d => Dp K M v d, fun {K M M' v x} e h => dp_ext e x v h⟩

/-! ### slots -/
/-- a typed value -/
structure Cl : Type 1 where
  {α : Type}
  t : Ty α
  x : α
inductive FReps (K : Fg) (M : Hp) : List (Str × V) → List (Str × Cl) → Prop where
  | nil : FReps K M [] []
  | cons {f : Str} {v : V} {c : Cl} {vs : List (Str × V)} {cs : List (Str × Cl)} (h : c.t.rep K M v c.x) (r : FReps K M vs cs) : FReps K M ((f, v) :: vs) ((f, c) :: cs)
theorem freps_ext {K : Fg} {M M' : Hp} (e : Same M M') : ∀ {vs : List (Str × V)} {cs : List (Str × Cl)}, FReps K M vs cs → FReps K M' vs cs
  | _, _, .nil => .nil
  | _, _, .cons h r => .cons (Ty.ext _ e h) (freps_ext e r)
theorem freps_len {K : Fg} {M : Hp} : ∀ {vs : List (Str × V)} {cs : List (Str × Cl)}, FReps K M vs cs → vs.length = cs.length
  | _, _, .nil => rfl
  | _, _, .cons _ r => by simp [freps_len r]
theorem freps_lookup {K : Fg} {M : Hp} {f : Str} {c : Cl} : ∀ {vs : List (Str × V)} {cs : List (Str × Cl)}, FReps K M vs cs → cs.lookup f = some c → ∃ v, vs.lookup f = some v ∧ c.t.rep K M v c.x
  | _, _, .nil, e => by simp at e
  | _, _, .cons (f := g) (v := v) (c := d) h r, e => by
    by_cases z : f = g
    · subst z
      simp [List.lookup] at e
      subst e
      exact ⟨v, by simp [List.lookup], h⟩
    · have z' : (f == g) = false := by simpa using z
      simp only [List.lookup, z'] at e ⊢
      exact freps_lookup r e
theorem freps_none {K : Fg} {M : Hp} {f : Str} : ∀ {vs : List (Str × V)} {cs : List (Str × Cl)}, FReps K M vs cs → cs.lookup f = none → vs.lookup f = none
  | _, _, .nil, e => rfl
  | _, _, .cons (f := g) (v := v) (c := d) h r, e => by
    by_cases z : f = g
    · subst z
      simp [List.lookup] at e
    · have z' : (f == g) = false := by simpa using z
      simp only [List.lookup, z'] at e ⊢
      exact freps_none r e
/-- an instance of the class at C with these fields -/
def tOb {α : Type} (C : Addr) (fs : α → List (Str × Cl)) : Ty α := ⟨fun K M v x => ∃ a dx vs, v = .ref a ∧ M a = some (.ins C dx vs) ∧ FReps K M vs (fs x),
  fun e ⟨a, dx, vs, h1, h2, h3⟩ => ⟨a, dx, vs, h1, e _ _ h2, freps_ext e h3⟩⟩
theorem refs_inj : ∀ {bs cs : List Addr}, bs.map V.ref = cs.map V.ref → bs = cs
  | [], [], _ => rfl
  | [], _ :: _, h => by simp at h
  | _ :: _, [], h => by simp at h
  | b :: bs, c :: cs, h => by
    simp only [List.map_cons, List.cons.injEq, V.ref.injEq] at h
    rw [h.1, refs_inj h.2]
inductive Sl : Type 1 where
  | un
  | vl {α : Type} (t : Ty α) (x : α)
  | ow {α : Type} (t : Ty α) (xs : List α)
  | o2 {α : Type} (t : Ty α) (xss : List (List α))
  | ob (p dx C : Addr) (fs : List (Str × Cl))
def Sl.own : Sl → Bool
  | .ow _ _ => true
  | .o2 _ _ => true
  | .ob _ _ _ _ => true
  | _ => false
def RepS (K : Fg) (M : Hp) (v : V) : Sl → Prop
  | .vl t x => t.rep K M v x
  | _ => False
/-- a list of one's own at a -/
def OwnL (K : Fg) {α : Type} (t : Ty α) (H0 M H : Hp) (a : Addr) (xs : List α) : Prop := H0 a = none ∧ M a = none ∧ ∃ vs, H a = some (.lst vs) ∧ Paired (t.rep K M) vs xs
def Ok1 (K : Fg) (H0 M H : Hp) (o : Option V) (fp : List Addr) : Sl → Prop
  | .un => True
  | .vl t x => ∃ v, o = some v ∧ t.rep K M v x
  | .ow t xs => ∃ a, fp = [a] ∧ o = some (.ref a) ∧ OwnL K t H0 M H a xs
  | .o2 t xss => ∃ a bs, fp = a :: bs ∧ o = some (.ref a) ∧ H0 a = none ∧ M a = none ∧ H a = some (.lst (bs.map V.ref)) ∧ a ∉ bs ∧ bs.Nodup ∧ Paired (OwnL K t H0 M H) bs xss
  | .ob p dx C fs => fp = [p] ∧ o = some (.ref p) ∧ H0 p = none ∧ M p = none ∧ ∃ vs, H p = some (.ins C dx vs) ∧ H dx = some (.own p) ∧ H0 dx = none ∧ M dx = none ∧ FReps K M vs fs
structure St (K : Fg) (M0 H0 M H : Hp) (σ : L2.St) (G : List Sl) : Prop where
  nx : Nx M0 H0 M H
  len : σ.length = G.length
  sl : ∃ A : Nat → List Addr, (∀ i s, G[i]? = some s → ∃ o, σ[i]? = some o ∧ Ok1 K H0 M H o (A i) s) ∧ ∀ i j s t, G[i]? = some s → G[j]? = some t → s.own = true → t.own = true → i ≠ j → ∀ x, x ∈ A i → x ∉ A j
section
variable {K : Fg} {M0 H0 M H M' H' : Hp} {σ : L2.St} {G : List Sl}
theorem OwnL.next {α : Type} {t : Ty α} {a : Addr} {xs : List α} (n : Nx M H M' H') (h : OwnL K t H0 M H a xs) : OwnL K t H0 M' H' a xs := by
  obtain ⟨h0, hm, vs, hh, p⟩ := h
  exact ⟨h0, n.fr a hm (by rw [hh]; simp), vs, n.ex _ _ hh, paired_imp (fun _ _ q => t.ext n.vx q) p⟩
theorem OwnL.keep {α : Type} {t : Ty α} {a : Addr} {xs : List α} (h : OwnL K t H0 M H a xs) (k : H' a = H a) : OwnL K t H0 M H' a xs := by
  obtain ⟨h0, hm, vs, hh, p⟩ := h
  exact ⟨h0, hm, vs, by rw [k]; exact hh, p⟩
theorem OwnL.vw {α : Type} {t : Ty α} {a : Addr} {xs : List α} (h : OwnL K t H0 M H a xs) (m : Same M M') (k : M' a = none) : OwnL K t H0 M' H a xs := by
  obtain ⟨h0, hm, vs, hh, p⟩ := h
  exact ⟨h0, k, vs, hh, paired_imp (fun _ _ q => t.ext m q) p⟩
theorem Ok1.next {o : Option V} {a : List Addr} {s : Sl} (n : Nx M H M' H') (h : Ok1 K H0 M H o a s) : Ok1 K H0 M' H' o a s := by
  cases s with
  | un => trivial
  | vl t x => obtain ⟨v, e, r⟩ := h; exact ⟨v, e, t.ext n.vx r⟩
  | ow t xs => obtain ⟨b, f, e, r⟩ := h; exact ⟨b, f, e, r.next n⟩
  | o2 t xss =>
    obtain ⟨b, bs, f, e, h0, hm, hh, q1, q2, p⟩ := h
    exact ⟨b, bs, f, e, h0, n.fr b hm (by rw [hh]; simp), n.ex _ _ hh, q1, q2, paired_imp (fun _ _ r => r.next n) p⟩
  | ob p dx C fs =>
    obtain ⟨ea, e, h0, hm, vs, hh, hd, h0d, md, q⟩ := h
    exact ⟨ea, e, h0, n.fr p hm (by rw [hh]; simp), vs, n.ex _ _ hh, n.ex _ _ hd, h0d, n.fr dx md (by rw [hd]; simp), freps_ext n.vx q⟩
/-- the heap changes elsewhere -/
theorem Ok1.keep {o : Option V} {a : List Addr} {s : Sl} (h : Ok1 K H0 M H o a s) (k : ∀ x ∈ a, H' x = H x) (kd : ∀ d p, H d = some (.own p) → H' d = some (.own p)) : Ok1 K H0 M H' o a s := by
  cases s with
  | un => trivial
  | vl t x => exact h
  | ow t xs => obtain ⟨b, rfl, e, r⟩ := h; exact ⟨b, rfl, e, r.keep (k b (by simp))⟩
  | o2 t xss =>
    obtain ⟨b, bs, rfl, e, h0, hm, hh, q1, q2, p⟩ := h
    refine ⟨b, bs, rfl, e, h0, hm, by rw [k b (by simp)]; exact hh, q1, q2, ?_⟩
    have key : ∀ {bs : List Addr} {xss}, (∀ x ∈ bs, H' x = H x) → Paired (OwnL K t H0 M H) bs xss → Paired (OwnL K t H0 M H') bs xss := by
      intro bs xss kk pp
      induction pp with
      | nil => exact .nil
      | cons r _ ih => exact .cons (r.keep (kk _ (by simp))) (ih fun x hx => kk x (by simp [hx]))
    exact key (fun x hx => k x (by simp [hx])) p
  | ob p dx C fs =>
    obtain ⟨rfl, e, h0, hm, vs, hh, hd, h0d, md, q⟩ := h
    exact ⟨rfl, e, h0, hm, vs, by rw [k p (by simp)]; exact hh, kd _ _ hd, h0d, md, q⟩
/-- the view grows elsewhere -/
theorem Ok1.vw {o : Option V} {a : List Addr} {s : Sl} (h : Ok1 K H0 M H o a s) (m : Same M M') (k : ∀ x ∈ a, M' x = none) (kd : ∀ d p, H d = some (.own p) → M d = none → M' d = none) : Ok1 K H0 M' H o a s := by
  cases s with
  | un => trivial
  | vl t x => obtain ⟨v, e, r⟩ := h; exact ⟨v, e, t.ext m r⟩
  | ow t xs => obtain ⟨b, rfl, e, r⟩ := h; exact ⟨b, rfl, e, r.vw m (k b (by simp))⟩
  | o2 t xss =>
    obtain ⟨b, bs, rfl, e, h0, hm, hh, q1, q2, p⟩ := h
    refine ⟨b, bs, rfl, e, h0, k b (by simp), hh, q1, q2, ?_⟩
    have key : ∀ {bs : List Addr} {xss}, (∀ x ∈ bs, M' x = none) → Paired (OwnL K t H0 M H) bs xss → Paired (OwnL K t H0 M' H) bs xss := by
      intro bs xss kk pp
      induction pp with
      | nil => exact .nil
      | cons r _ ih => exact .cons (r.vw m (kk _ (by simp))) (ih fun x hx => kk x (by simp [hx]))
    exact key (fun x hx => k x (by simp [hx])) p
  | ob p dx C fs =>
    obtain ⟨rfl, e, h0, hm, vs, hh, hd, h0d, md, q⟩ := h
    exact ⟨rfl, e, h0, k p (by simp), vs, hh, hd, h0d, kd _ _ hd md, freps_ext m q⟩
/-- what stands at an own slot's addresses -/
theorem Ok1.there {o : Option V} {a : List Addr} {s : Sl} (h : Ok1 K H0 M H o a s) (ho : s.own = true) : ∀ x ∈ a, H0 x = none ∧ M x = none ∧ ((∃ vs, H x = some (.lst vs)) ∨ ∃ C dx vs, H x = some (.ins C dx vs)) := by
  cases s with
  | un => cases ho
  | vl t x => cases ho
  | ow t xs =>
    obtain ⟨b, rfl, e, h0, hm, vs, hh, p⟩ := h
    intro x hx
    rw [List.mem_singleton.mp hx]; exact ⟨h0, hm, .inl ⟨vs, hh⟩⟩
  | o2 t xss =>
    obtain ⟨b, bs, rfl, e, h0, hm, hh, q1, q2, p⟩ := h
    intro x hx
    rcases List.mem_cons.mp hx with rfl | hx
    · exact ⟨h0, hm, .inl ⟨_, hh⟩⟩
    · obtain ⟨i, hi⟩ := List.getElem?_of_mem hx
      obtain ⟨xs, _, h0, hm, vs, hh, _⟩ := paired_get' p hi
      exact ⟨h0, hm, .inl ⟨vs, hh⟩⟩
  | ob p dx C fs =>
    obtain ⟨rfl, e, h0, hm, vs, hh, hd, h0d, md, q⟩ := h
    intro x hx
    rw [List.mem_singleton.mp hx]; exact ⟨h0, hm, .inr ⟨C, dx, vs, hh⟩⟩
theorem St.next (S : St K M0 H0 M H σ G) (n : Nx M H M' H') : St K M0 H0 M' H' σ G := by
  obtain ⟨A, h1, h2⟩ := S.sl
  exact ⟨S.nx.trans n, S.len, A, fun i s e => by
    obtain ⟨o, q, r⟩ := h1 i s e
    exact ⟨o, q, r.next n⟩, h2⟩
theorem St.sub (S : St K M0 H0 M H σ G) : Same M H := S.nx.sub
theorem St.get {α : Type} {t : Ty α} {x : α} {i : Nat} (S : St K M0 H0 M H σ G) (h : G[i]? = some (.vl t x)) : ∃ v, σ[i]? = some (some v) ∧ t.rep K M v x := by
  obtain ⟨A, h1, _⟩ := S.sl
  obtain ⟨o, q, v, e, r⟩ := h1 i _ h
  exact ⟨v, by rw [q, e], r⟩
/-- THE CHANGE of one slot: i gets s with the footprint fp, the value o -/
theorem St.change {s : Sl} {i : Nat} {o : Option V} {fp : List Addr} (S : St K M0 H0 M H σ G) (n : Nx M0 H0 M' H') (ho : s.own = true → ∀ (A : Nat → List Addr), (∀ i s, G[i]? = some s → ∃ o, σ[i]? = some o ∧ Ok1 K H0 M H o (A i) s) →
      (∀ i j s t, G[i]? = some s → G[j]? = some t → s.own = true → t.own = true → i ≠ j → ∀ x, x ∈ A i → x ∉ A j) → ∀ j t, j ≠ i → G[j]? = some t → t.own = true → ∀ x ∈ A j, x ∉ fp)
    (hk : ∀ (A : Nat → List Addr), (∀ i s, G[i]? = some s → ∃ o, σ[i]? = some o ∧ Ok1 K H0 M H o (A i) s) → (∀ i j s t, G[i]? = some s → G[j]? = some t → s.own = true → t.own = true → i ≠ j → ∀ x, x ∈ A i → x ∉ A j) →
      ∀ j t o', j ≠ i → G[j]? = some t → Ok1 K H0 M H o' (A j) t → Ok1 K H0 M' H' o' (A j) t) (hs : Ok1 K H0 M' H' o fp s) : St K M0 H0 M' H' (σ.set i o) (G.set i s) := by
  obtain ⟨A, h1, h2⟩ := S.sl
  refine ⟨n, by rw [List.length_set, List.length_set]; exact S.len, fun j => if j = i then fp else A j, fun j u e => ?_, fun j k u w e1 e2 o1 o2 ne x hx => ?_⟩
  · by_cases z : i = j
    · subst z
      have hl : i < G.length := by
        have := (List.getElem?_eq_some_iff.mp e).1
        rwa [List.length_set] at this
      rw [List.getElem?_set_self hl] at e
      cases e
      refine ⟨o, List.getElem?_set_self (by rw [S.len]; exact hl), ?_⟩
      show Ok1 K H0 M' H' o (if i = i then fp else A i) _
      rw [if_pos rfl]; exact hs
    · rw [List.getElem?_set_ne z] at e
      rw [List.getElem?_set_ne z]
      obtain ⟨o', q, r⟩ := h1 j u e
      refine ⟨o', q, ?_⟩
      show Ok1 K H0 M' H' o' (if j = i then fp else A j) _
      rw [if_neg (Ne.symm z)]
      exact hk A h1 h2 j u o' (Ne.symm z) e r
  · have hx' : x ∈ (if j = i then fp else A j) := hx
    show x ∉ (if k = i then fp else A k)
    by_cases zj : j = i
    · by_cases zk : k = i
      · exact absurd (zj.trans zk.symm) ne
      · rw [if_pos zj] at hx'
        rw [if_neg zk]
        rw [List.getElem?_set_ne (Ne.symm zk)] at e2
        have hj : G[i]? = some (G[i]?.getD .un) ∨ G[i]? = none := by
          cases q : G[i]? with
          | none => exact .inr rfl
          | some u => exact .inl rfl
        have hl : i < G.length := by
          have := (List.getElem?_eq_some_iff.mp e1).1
          rw [List.length_set, zj] at this; exact this
        rw [zj, List.getElem?_set_self hl] at e1
        cases e1
        intro hk'
        exact ho o1 A h1 h2 k w zk e2 o2 x hk' hx'
    · rw [if_neg zj] at hx'
      rw [List.getElem?_set_ne (Ne.symm zj)] at e1
      by_cases zk : k = i
      · rw [if_pos zk]
        have hl : i < G.length := by
          have := (List.getElem?_eq_some_iff.mp e2).1
          rw [List.length_set, zk] at this; exact this
        rw [zk, List.getElem?_set_self hl] at e2
        cases e2
        exact ho o2 A h1 h2 j u zj e1 o1 x hx'
      · rw [if_neg zk]
        rw [List.getElem?_set_ne (Ne.symm zk)] at e2
        exact h2 j k u w e1 e2 o1 o2 ne x hx'
/-- a slot is stored -/
theorem St.set {s : Sl} {i : Nat} {v : V} (S : St K M0 H0 M H σ G) (hr : RepS K M v s) : St K M0 H0 M H (σ.set i (some v)) (G.set i s) := by
  have no : s.own = false := by cases s <;> first | rfl | exact hr.elim
  refine S.change (fp := []) S.nx (fun h => by rw [no] at h; cases h) (fun _ _ _ _ _ _ _ _ r => r) ?_
  cases s with
  | vl t x => exact ⟨v, rfl, hr⟩
  | un => trivial
  | ow t xs => exact hr.elim
  | o2 t xs => exact hr.elim
  | ob p dx C fs => exact hr.elim
/-- a slot is forgotten, its value too -/
theorem St.drop {i : Nat} (S : St K M0 H0 M H σ G) : St K M0 H0 M H (σ.set i none) (G.set i .un) :=
  S.change (fp := []) S.nx (fun h => by cases h) (fun _ _ _ _ _ _ _ _ r => r) trivial
/-- a new list of its own: at p, not frozen -/
theorem St.setOwn {α : Type} {t : Ty α} {xs : List α} {vs : List V} {i : Nat} {p : Addr} (S : St K M0 H0 M H σ G) (n : Nx M H M' H') (hp : H p = none) (mp : M' p = none) (hH : H' p = some (.lst vs)) (hr : Paired (t.rep K M') vs xs) :
    St K M0 H0 M' H' (σ.set i (some (.ref p))) (G.set i (.ow t xs)) := by
  have h0p : H0 p = none := S.nx.ex.free hp
  refine S.change (fp := [p]) (S.nx.trans n) (fun _ A h1 _ j t' _ e o x hx hx2 => ?_) (fun _ _ _ _ _ _ _ _ r => r.next n) ⟨p, rfl, rfl, h0p, mp, vs, hH, hr⟩
  obtain ⟨_, _, r⟩ := h1 j t' e
  obtain ⟨_, _, q⟩ := r.there o x hx
  rw [List.mem_singleton.mp hx2, hp] at q
  rcases q with ⟨_, q⟩ | ⟨_, _, _, q⟩ <;> cases q
theorem own_upd {a : Addr} {u o : HO} (hh : H a = some u) (hu : ∀ p, u ≠ .own p) : ∀ d p, H d = some (.own p) → upd H a o d = some (.own p) := fun d p e => by
  rw [upd_ne (ne_of e hh (fun q => hu p q.symm))]; exact e
theorem St.value (S : St K M0 H0 M H σ G) {i : Nat} {o : Option V} (h : σ[i]? = some o) : σ.set i o = σ := by
  apply List.ext_getElem?
  intro j
  by_cases hj : i = j
  · subst hj
    rw [List.getElem?_set_self (List.getElem?_eq_some_iff.mp h).1, h]
  · rw [List.getElem?_set_ne hj]
theorem nx_upd {a : Addr} {o : HO} (n : Nx M0 H0 M H) (h0 : H0 a = none) (hm : M a = none) : Nx M0 H0 M (upd H a o) :=
  ⟨fun b u e => by rw [upd_ne (ne_of_none e h0)]; exact n.ex b u e, n.vx, fun b u e => by rw [upd_ne (ne_of_none e hm)]; exact n.sub b u e, n.fr⟩
/-- a list of one's own is changed -/
theorem St.putOwn {α : Type} {t : Ty α} {xs ys : List α} {i : Nat} (S : St K M0 H0 M H σ G) (h : G[i]? = some (.ow t xs)) :
    ∃ a vs, σ[i]? = some (some (.ref a)) ∧ H a = some (.lst vs) ∧ M a = none ∧ Paired (t.rep K M) vs xs ∧ ∀ ws, Paired (t.rep K M) ws ys → St K M0 H0 M (upd H a (.lst ws)) σ (G.set i (.ow t ys)) := by
  obtain ⟨A0, h10, h20⟩ := S.sl
  obtain ⟨o, q, a, ef, e, h0, hm, vs, hh, p⟩ := h10 i _ h
  subst e
  refine ⟨a, vs, q, hh, hm, p, fun ws pw => ?_⟩
  rw [← S.value q]
  refine S.change (fp := [a]) (nx_upd S.nx h0 hm) (fun _ A h1 h2 j t' nj e' o' x hx hx2 => ?_) (fun A h1 h2 j t' o' nj e' r => ?_) ⟨a, rfl, rfl, h0, hm, ws, upd_same, pw⟩
  · obtain ⟨o2, q2, a2, ef2, e2, _⟩ := h1 i _ h
    rw [q] at q2; cases q2; cases e2
    exact h2 j i _ _ e' h o' rfl nj x hx (by rw [ef2]; exact hx2)
  · by_cases ho : t'.own = true
    · obtain ⟨o2, q2, a2, ef2, e2, _⟩ := h1 i _ h
      rw [q] at q2; cases q2; cases e2
      exact r.keep (fun x hx => upd_ne (fun z => h2 j i _ _ e' h ho rfl nj x hx (by rw [ef2, z]; simp))) (own_upd hh (fun _ => by simp))
    · cases t' with
      | un => trivial
      | vl t x => exact r
      | ow _ _ => exact absurd rfl ho
      | o2 _ _ => exact absurd rfl ho
      | ob _ _ _ _ => exact absurd rfl ho
/-- an object of one's own gets a field -/
theorem St.putOb {p dx C : Addr} {fs fs' : List (Str × Cl)} {i : Nat} (S : St K M0 H0 M H σ G) (h : G[i]? = some (.ob p dx C fs)) :
    ∃ vs, σ[i]? = some (some (.ref p)) ∧ H p = some (.ins C dx vs) ∧ M p = none ∧ FReps K M vs fs ∧ ∀ ws, FReps K M ws fs' → St K M0 H0 M (upd H p (.ins C dx ws)) σ (G.set i (.ob p dx C fs')) := by
  obtain ⟨A0, h10, h20⟩ := S.sl
  obtain ⟨o, q, ef, e, h0, hm, vs, hh, hd, h0d, md, pr⟩ := h10 i _ h
  subst e
  refine ⟨vs, q, hh, hm, pr, fun ws pw => ?_⟩
  rw [← S.value q]
  refine S.change (fp := [p]) (nx_upd S.nx h0 hm) (fun _ A h1 h2 j t' nj e' o' x hx hx2 => ?_) (fun A h1 h2 j t' o' nj e' r => ?_) ⟨rfl, rfl, h0, hm, ws, upd_same, own_upd hh (fun _ => by simp) _ _ hd, h0d, md, pw⟩
  · obtain ⟨o2, q2, ef2, _⟩ := h1 i _ h
    exact h2 j i _ _ e' h o' rfl nj x hx (by rw [ef2]; exact hx2)
  · by_cases ho : t'.own = true
    · obtain ⟨o2, q2, ef2, _⟩ := h1 i _ h
      exact r.keep (fun x hx => upd_ne (fun z => h2 j i _ _ e' h ho rfl nj x hx (by rw [ef2, z]; simp))) (own_upd hh (fun _ => by simp))
    · cases t' with
      | un => trivial
      | vl t x => exact r
      | ow _ _ => exact absurd rfl ho
      | o2 _ _ => exact absurd rfl ho
      | ob _ _ _ _ => exact absurd rfl ho
/-- .. what is known of it at the end -/
theorem St.getOb {p dx C : Addr} {fs : List (Str × Cl)} {i : Nat} (S : St K M0 H0 M H σ G) (h : G[i]? = some (.ob p dx C fs)) :
    ∃ vs, σ[i]? = some (some (.ref p)) ∧ H p = some (.ins C dx vs) ∧ H dx = some (.own p) ∧ M p = none ∧ M dx = none ∧ FReps K M vs fs := by
  obtain ⟨A, h1, h2⟩ := S.sl
  obtain ⟨o, q, ea, e, h0, hm, vs, hh, hd, h0d, md, pr⟩ := h1 i _ h
  exact ⟨vs, by rw [q, e], hh, hd, hm, md, pr⟩
/-- a list of one's own is frozen -/
theorem St.freeze {α : Type} {t : Ty α} {xs : List α} {i : Nat} (S : St K M0 H0 M H σ G) (h : G[i]? = some (.ow t xs)) :
    ∃ a vs, H a = some (.lst vs) ∧ M a = none ∧ H0 a = none ∧ St K M0 H0 (upd M a (.lst vs)) H σ (G.set i (.vl (tLst t) xs)) := by
  obtain ⟨A0, h10, h20⟩ := S.sl
  obtain ⟨o, q, a, ef, e, h0, hm, vs, hh, p⟩ := h10 i _ h
  subst e
  have mm : Same M (upd M a (.lst vs)) := same_new hm
  refine ⟨a, vs, hh, hm, h0, ?_⟩
  rw [← S.value q]
  refine S.change (fp := []) ⟨S.nx.ex, S.nx.vx.trans mm, fun b u e => ?_, fun b n1 n2 => ?_⟩ (fun h => by cases h) (fun A h1 h2 j t' o' nj e' r => ?_) ⟨.ref a, rfl, a, vs, rfl, upd_same, paired_imp (fun _ _ r => t.ext mm r) p⟩
  · by_cases z : b = a
    · subst z; rw [upd_same] at e; cases e; exact hh
    · rw [upd_ne z] at e; exact S.sub b u e
  · rw [upd_ne (fun z => n2 (by rw [z]; exact h0))]; exact S.nx.fr b n1 n2
  · by_cases ho : t'.own = true
    · obtain ⟨o2, q2, a2, ef2, e2, _⟩ := h1 i _ h
      rw [q] at q2; cases q2; cases e2
      refine r.vw mm (fun x hx => ?_) (fun d p e md => by rw [upd_ne (ne_of e hh (by simp))]; exact md)
      rw [upd_ne (fun z => h2 j i _ _ e' h ho rfl nj x hx (by rw [ef2, z]; simp))]
      exact (r.there ho x hx).2.1
    · cases t' with
      | un => trivial
      | vl t x => obtain ⟨v, r1, r2⟩ := r; exact ⟨v, r1, t.ext mm r2⟩
      | ow _ _ => exact absurd rfl ho
      | o2 _ _ => exact absurd rfl ho
      | ob _ _ _ _ => exact absurd rfl ho

/-! ### a list of lists, all of one's own -/
/-- a new one: at p, its items at bs -/
theorem St.setOwn2 {α : Type} {t : Ty α} {xss : List (List α)} {bs : List Addr} {i : Nat} {p : Addr} (S : St K M0 H0 M H σ G) (n : Nx M H M' H') (hp : H p = none) (mp : M' p = none) (hH : H' p = some (.lst (bs.map V.ref))) (hb : ∀ x ∈ bs, H x = none) (hpb : p ∉ bs) (nd : bs.Nodup)
    (hr : Paired (fun b xs => M' b = none ∧ ∃ vs, H' b = some (.lst vs) ∧ Paired (t.rep K M') vs xs) bs xss) : St K M0 H0 M' H' (σ.set i (some (.ref p))) (G.set i (.o2 t xss)) := by
  have h0p : H0 p = none := S.nx.ex.free hp
  have fresh : ∀ x ∈ p :: bs, H x = none := fun x hx => by
    rcases List.mem_cons.mp hx with rfl | hx
    · exact hp
    · exact hb x hx
  refine S.change (fp := p :: bs) (S.nx.trans n) (fun _ A h1 _ j t' _ e o x hx hx2 => ?_) (fun _ _ _ _ _ _ _ _ r => r.next n) ⟨p, bs, rfl, rfl, h0p, mp, hH, hpb, nd, ?_⟩
  · obtain ⟨_, _, r⟩ := h1 j t' e
    obtain ⟨_, _, q⟩ := r.there o x hx
    rw [fresh x hx2] at q
    rcases q with ⟨_, q⟩ | ⟨_, _, _, q⟩ <;> cases q
  · have key : ∀ {bs : List Addr} {xss : List (List α)}, (∀ x ∈ bs, H x = none) → Paired (fun b xs => M' b = none ∧ ∃ vs, H' b = some (.lst vs) ∧ Paired (t.rep K M') vs xs) bs xss → Paired (OwnL K t H0 M' H') bs xss := by
      intro bs xss kk pp
      induction pp with
      | nil => exact .nil
      | cons r _ ih => exact .cons ⟨S.nx.ex.free (kk _ (by simp)), r.1, r.2⟩ (ih fun x hx => kk x (by simp [hx]))
    exact key hb hr
/-- its j-th list is changed -/
theorem St.put2 {α : Type} {t : Ty α} {xss : List (List α)} {xs ys : List α} {i j : Nat} (S : St K M0 H0 M H σ G) (h : G[i]? = some (.o2 t xss)) (hj : xss[j]? = some xs) :
    ∃ (a : Addr) (bs : List Addr) (b : Addr) (vs : List V), σ[i]? = some (some (.ref a)) ∧ H a = some (.lst (bs.map V.ref)) ∧ bs.length = xss.length ∧ bs[j]? = some b ∧ H b = some (.lst vs) ∧ M b = none ∧ Paired (t.rep K M) vs xs ∧ ∀ ws, Paired (t.rep K M) ws ys → St K M0 H0 M (upd H b (.lst ws)) σ (G.set i (.o2 t (xss.set j ys))) := by
  obtain ⟨A0, h10, h20⟩ := S.sl
  obtain ⟨o, q, a, bs, ef, e, h0, hm, hh, n1, n2, p⟩ := h10 i _ h
  subst e
  obtain ⟨b, eb, b0, bm, vs, hb, pr⟩ := paired_get p hj
  refine ⟨a, bs, b, vs, q, hh, p.length, eb, hb, bm, pr, fun ws pw => ?_⟩
  have bmem : b ∈ bs := List.mem_of_getElem? eb
  rw [← S.value q]
  refine S.change (fp := a :: bs) (nx_upd S.nx b0 bm) (fun _ A h1 h2 l t' nj e' o' x hx hx2 => ?_) (fun A h1 h2 l t' o' nj e' r => ?_) ⟨a, bs, rfl, rfl, h0, hm, by rw [upd_ne (fun z => n1 (by rw [z]; exact bmem))]; exact hh, n1, n2, ?_⟩
  · obtain ⟨o2, q2, a2, bs2, ef2, e2, _, _, hh2, _⟩ := h1 i _ h
    rw [q] at q2; cases q2; cases e2
    rw [hh] at hh2
    have eb2 : bs = bs2 := by
      have := Option.some.inj hh2
      injection this with this
      exact refs_inj this
    subst eb2
    exact h2 l i _ _ e' h o' rfl nj x hx (by rw [ef2]; exact hx2)
  · by_cases ho : t'.own = true
    · obtain ⟨o2, q2, a2, bs2, ef2, e2, _, _, hh2, _⟩ := h1 i _ h
      rw [q] at q2; cases q2; cases e2
      rw [hh] at hh2
      have eb2 : bs = bs2 := by
        have := Option.some.inj hh2
        injection this with this
        exact refs_inj this
      subst eb2
      exact r.keep (fun x hx => upd_ne (fun z => h2 l i _ _ e' h ho rfl nj x hx (by rw [ef2, z]; simp [bmem]))) (own_upd hb (fun _ => by simp))
    · cases t' with
      | un => trivial
      | vl t x => exact r
      | ow _ _ => exact absurd rfl ho
      | o2 _ _ => exact absurd rfl ho
      | ob _ _ _ _ => exact absurd rfl ho
  · have key2 : ∀ {cs : List Addr} {yss : List (List α)}, (∀ x ∈ cs, x ≠ b) → Paired (OwnL K t H0 M H) cs yss → Paired (OwnL K t H0 M (upd H b (.lst ws))) cs yss := by
      intro cs yss kk qq
      induction qq with
      | nil => exact .nil
      | cons r _ ih => exact .cons (r.keep (upd_ne (kk _ (by simp)))) (ih fun x hx => kk x (by simp [hx]))
    have key : ∀ {bs : List Addr} {xss : List (List α)} {j : Nat}, bs.Nodup → bs[j]? = some b → Paired (OwnL K t H0 M H) bs xss → Paired (OwnL K t H0 M (upd H b (.lst ws))) bs (xss.set j ys) := by
      intro bs xss j nd hb' pp
      induction pp generalizing j with
      | nil => exact .nil
      | cons r rest ih =>
        cases j with
        | zero =>
          have e1 := Option.some.inj (show some _ = some b from by simpa using hb')
          subst e1
          refine .cons ⟨r.1, r.2.1, ws, upd_same, pw⟩ ?_
          exact key2 (fun x hx z => (List.nodup_cons.mp nd).1 (by rw [← z]; exact hx)) rest
        | succ j =>
          rw [List.getElem?_cons_succ] at hb'
          exact .cons (r.keep (upd_ne (fun z => (List.nodup_cons.mp nd).1 (by rw [z]; exact List.mem_of_getElem? hb')))) (ih (List.nodup_cons.mp nd).2 hb')
    exact key n2 eb p
/-- its j-th list is exchanged for a new one at p; a new list is put behind -/
theorem St.new2 {α : Type} {t : Ty α} {xss yss : List (List α)} {i : Nat} {p : Addr} {cs : List Addr → List Addr} {xs : List α} {vs : List V} (S : St K M0 H0 M H σ G) (h : G[i]? = some (.o2 t xss)) (n : Nx M H M' H') (hp : H p = none) (mp : M' p = none) (hv : H' p = some (.lst vs)) (hr : Paired (t.rep K M') vs xs)
    (hc : ∀ bs : List Addr, bs.length = xss.length → bs.Nodup → p ∉ bs → (cs bs).Nodup ∧ ∀ x ∈ cs bs, x = p ∨ x ∈ bs) (hc2 : ∀ {F : Addr → List α → Prop} {bs : List Addr}, F p xs → Paired F bs xss → Paired F (cs bs) yss) :
    ∃ (a : Addr) (bs : List Addr), σ[i]? = some (some (.ref a)) ∧ H' a = some (.lst (bs.map V.ref)) ∧ bs.length = xss.length ∧ St K M0 H0 M' (upd H' a (.lst ((cs bs).map V.ref))) σ (G.set i (.o2 t yss)) := by
  obtain ⟨A0, h10, h20⟩ := S.sl
  obtain ⟨o, q, a, bs, ef, e, h0, hm, hh, n1, n2, pr⟩ := h10 i _ h
  subst e
  have hl := pr.length
  have old : ∀ x ∈ a :: bs, H x ≠ none := fun x hx => by
    rcases List.mem_cons.mp hx with rfl | hx
    · rw [hh]; simp
    · obtain ⟨j, hj⟩ := List.getElem?_of_mem hx
      obtain ⟨_, _, _, _, vs', hv', _⟩ := paired_get' pr hj
      rw [hv']; simp
  have pa : p ≠ a := fun z => old a (by simp) (by rw [← z]; exact hp)
  have pb : p ∉ bs := fun z => old p (by simp [z]) hp
  obtain ⟨c1, c2⟩ := hc bs hl n2 pb
  have ma' : M' a = none := n.fr a hm (by rw [hh]; simp)
  have hh' := n.ex _ _ hh
  refine ⟨a, bs, q, hh', hl, ?_⟩
  rw [← S.value q]
  refine S.change (fp := a :: cs bs) (nx_upd (S.nx.trans n) h0 ma') (fun _ A h1 h2 l t' nj e' o' x hx hx2 => ?_) (fun A h1 h2 l t' o' nj e' r => ?_) ⟨a, cs bs, rfl, rfl, h0, ma', upd_same, fun z => ?_, c1, ?_⟩
  · obtain ⟨o2, q2, a2, bs2, ef2, e2, _, _, hh2, _⟩ := h1 i _ h
    rw [q] at q2; cases q2; cases e2
    rw [hh] at hh2
    have eb2 : bs = bs2 := by
      have := Option.some.inj hh2
      injection this with this
      exact refs_inj this
    subst eb2
    rcases List.mem_cons.mp hx2 with rfl | hx2
    · exact h2 l i _ _ e' h o' rfl nj x hx (by rw [ef2]; simp)
    · rcases c2 x hx2 with rfl | hx3
      · obtain ⟨_, _, r⟩ := h1 l t' e'
        obtain ⟨_, _, qq⟩ := r.there o' x hx
        rw [hp] at qq
        rcases qq with ⟨_, qq⟩ | ⟨_, _, _, qq⟩ <;> cases qq
      · exact h2 l i _ _ e' h o' rfl nj x hx (by rw [ef2]; simp [hx3])
  · have r' := r.next n
    by_cases ho : t'.own = true
    · obtain ⟨o2, q2, a2, bs2, ef2, e2, _⟩ := h1 i _ h
      rw [q] at q2; cases q2; cases e2
      exact r'.keep (fun x hx => upd_ne (fun z => h2 l i _ _ e' h ho rfl nj x hx (by rw [ef2, z]; simp))) (own_upd hh' (fun _ => by simp))
    · cases t' with
      | un => trivial
      | vl t x => exact r'
      | ow _ _ => exact absurd rfl ho
      | o2 _ _ => exact absurd rfl ho
      | ob _ _ _ _ => exact absurd rfl ho
  · rcases c2 a z with z | z
    · exact pa z.symm
    · exact n1 z
  · have p2 : OwnL K t H0 M' (upd H' a (.lst ((cs bs).map V.ref))) p xs := ⟨S.nx.ex.free hp, mp, vs, by rw [upd_ne pa]; exact hv, hr⟩
    have key2 : ∀ {cs' : List Addr} {yss : List (List α)}, (∀ x ∈ cs', x ≠ a) → Paired (OwnL K t H0 M H) cs' yss → Paired (OwnL K t H0 M' (upd H' a (.lst ((cs bs).map V.ref)))) cs' yss := by
      intro cs' yss kk qq
      induction qq with
      | nil => exact .nil
      | cons r _ ih => exact .cons ((r.next n).keep (upd_ne (kk _ (by simp)))) (ih fun x hx => kk x (by simp [hx]))
    exact hc2 p2 (key2 (fun x hx z => n1 (by rw [← z]; exact hx)) pr)
def upds (M : Hp) (H : Hp) (bs : List Addr) : Hp := fun b => if b ∈ bs then H b else M b
/-- it is frozen, with all its lists -/
theorem St.freeze2 {α : Type} {t : Ty α} {xss : List (List α)} {i : Nat} (S : St K M0 H0 M H σ G) (h : G[i]? = some (.o2 t xss)) :
    ∃ fp : List Addr, (∀ x ∈ fp, M x = none ∧ H0 x = none ∧ ∃ vs, H x = some (.lst vs)) ∧ St K M0 H0 (upds M H fp) H σ (G.set i (.vl (tLst (tLst t)) xss)) := by
  obtain ⟨A0, h10, h20⟩ := S.sl
  obtain ⟨o, q, a, bs, ef, e, h0, hm, hh, n1, n2, p⟩ := h10 i _ h
  subst e
  have th := fun x hx => (h10 i _ h).elim fun o' z => z.2.there rfl x hx
  rw [ef] at th
  have allL : ∀ x ∈ a :: bs, M x = none ∧ H0 x = none ∧ ∃ vs, H x = some (.lst vs) := fun x hx => by
    rcases List.mem_cons.mp hx with rfl | hx
    · exact ⟨hm, h0, _, hh⟩
    · obtain ⟨j, hj⟩ := List.getElem?_of_mem hx
      obtain ⟨_, _, b0, bm, vs', hv', _⟩ := paired_get' p hj
      exact ⟨bm, b0, vs', hv'⟩
  have mm : Same M (upds M H (a :: bs)) := fun b u e => by
    unfold upds
    by_cases z : b ∈ a :: bs
    · rw [(allL b z).1] at e; cases e
    · rw [if_neg z]; exact e
  refine ⟨a :: bs, allL, ?_⟩
  rw [← S.value q]
  refine S.change (fp := []) ⟨S.nx.ex, S.nx.vx.trans mm, fun b u e => ?_, fun b n1 n2 => ?_⟩ (fun h => by cases h) (fun A h1 h2 j t' o' nj e' r => ?_) ⟨.ref a, rfl, a, bs.map V.ref, rfl, ?_, ?_⟩
  · unfold upds at e
    by_cases z : b ∈ a :: bs
    · rw [if_pos z] at e; exact e
    · rw [if_neg z] at e; exact S.sub b u e
  · unfold upds
    by_cases z : b ∈ a :: bs
    · exact absurd (allL b z).2.1 n2
    · rw [if_neg z]; exact S.nx.fr b n1 n2
  · by_cases ho : t'.own = true
    · obtain ⟨o2, q2, a2, bs2, ef2, e2, _, _, hh2, _⟩ := h1 i _ h
      rw [q] at q2; cases q2; cases e2
      rw [hh] at hh2
      have eb2 : bs = bs2 := by
        have := Option.some.inj hh2
        injection this with this
        exact refs_inj this
      subst eb2
      refine r.vw mm (fun x hx => ?_) (fun d p e md => ?_)
      · unfold upds
        rw [if_neg (fun z => h2 j i _ _ e' h ho rfl nj x hx (by rw [ef2]; exact z))]
        exact (r.there ho x hx).2.1
      · unfold upds
        rw [if_neg (fun z => by obtain ⟨_, _, vs, hv⟩ := allL d z; rw [e] at hv; cases hv)]
        exact md
    · cases t' with
      | un => trivial
      | vl t x => obtain ⟨v, r1, r2⟩ := r; exact ⟨v, r1, t.ext mm r2⟩
      | ow _ _ => exact absurd rfl ho
      | o2 _ _ => exact absurd rfl ho
      | ob _ _ _ _ => exact absurd rfl ho
  · unfold upds; rw [if_pos (by simp)]; exact hh
  · have key : ∀ {cs : List Addr} {yss : List (List α)}, (∀ x ∈ cs, x ∈ a :: bs) → Paired (OwnL K t H0 M H) cs yss → Paired ((tLst t).rep K (upds M H (a :: bs))) (cs.map V.ref) yss := by
      intro cs yss kk qq
      induction qq with
      | nil => exact .nil
      | cons r _ ih =>
        obtain ⟨_, _, vs, hv, pr⟩ := r
        exact .cons ⟨_, vs, rfl, by unfold upds; rw [if_pos (kk _ (by simp))]; exact hv, paired_imp (fun _ _ z => t.ext mm z) pr⟩ (ih fun x hx => kk x (by simp [hx]))
    exact key (fun x hx => by simp [hx]) p
/-- the view at hand as the one to start from -/
theorem St.rebase (S : St K M0 H0 M H σ G) : St K M H0 M H σ G :=
  ⟨⟨S.nx.ex, Same.refl _, S.nx.sub, fun _ q _ => q⟩, S.len, S.sl⟩
theorem Nx.unbase {M1 H1 : Hp} (n : Nx M0 H0 M1 H1) (m : Nx M1 H0 M H) : Nx M0 H0 M H := ⟨m.ex, n.vx.trans m.vx, m.sub, fun a q r => m.fr a (n.fr a q r) r⟩
theorem St.unbase {M1 H1 : Hp} (S : St K M1 H0 M H σ G) (n : Nx M0 H0 M1 H1) : St K M0 H0 M H σ G := ⟨n.unbase S.nx, S.len, S.sl⟩
def wipeG (G : List Sl) : List Nat → List Sl
  | [] => G
  | v :: vs => (wipeG G vs).set v .un
theorem St.wipe (S : St K M0 H0 M H σ G) : ∀ vs : List Nat, St K M0 H0 M H (L2.wipe σ vs) (wipeG G vs)
  | [] => S
  | v :: vs => (St.wipe S vs).drop
/-- less is said -/
inductive Sub : List Sl → List Sl → Prop where
  | nil : Sub [] []
  | same {s : Sl} {G G' : List Sl} (h : Sub G G') : Sub (s :: G) (s :: G')
  | un {s : Sl} {G G' : List Sl} (h : Sub G G') : Sub (s :: G) (.un :: G')
theorem Sub.len {G G' : List Sl} (h : Sub G G') : G.length = G'.length := by
  induction h with
  | nil => rfl
  | same _ ih => simp [ih]
  | un _ ih => simp [ih]
theorem Sub.get {G G' : List Sl} (h : Sub G G') : ∀ (i : Nat) (s : Sl), G'[i]? = some s → (s = Sl.un ∧ ∃ t, G[i]? = some t) ∨ G[i]? = some s := by
  induction h with
  | nil => intro i s e; simp at e
  | same _ ih =>
    intro i s e
    cases i with
    | zero => exact .inr (by simpa using e)
    | succ i => simpa using ih i s (by simpa using e)
  | un _ ih =>
    intro i s e
    cases i with
    | zero => exact .inl ⟨by simpa using e.symm, _, rfl⟩
    | succ i => simpa using ih i s (by simpa using e)
theorem Sub.refl : ∀ G : List Sl, Sub G G
  | [] => .nil
  | _ :: G => .same (Sub.refl G)
theorem St.weak {G' : List Sl} (S : St K M0 H0 M H σ G) (h : Sub G G') : St K M0 H0 M H σ G' := by
  obtain ⟨A, h1, h2⟩ := S.sl
  refine ⟨S.nx, S.len.trans h.len, A, fun i s e => ?_, fun i j s t e1 e2 o1 o2 => ?_⟩
  · rcases h.get i s e with ⟨rfl, t, q⟩ | q
    · obtain ⟨o, q', _⟩ := h1 i t q
      exact ⟨o, q', trivial⟩
    · exact h1 i s q
  · rcases h.get i s e1 with ⟨rfl, _⟩ | q1
    · cases o1
    · rcases h.get j t e2 with ⟨rfl, _⟩ | q2
      · cases o2
      · exact h2 i j s t q1 q2 o1 o2
end
end TL

namespace TL
open PySem L2

/-! ### judgements -/
section
variable {α β γ : Type}
/-- e is worth x in the context G -/
structure E (X : Cx) (G : List Sl) (e : Expr) (t : Ty α) (x : α) : Prop where
  run : ∀ {M0 H0 M H : Hp} {σ : L2.St}, St X.K M0 H0 M H σ G → ∀ (Q : VK), (∀ v M' H', Nx M H M' H' → t.rep X.K M' v x → Q v H') → wE X e σ H Q
/-- a test -/
structure T (X : Cx) (G : List Sl) (e : Expr) (b : Bool) : Prop where
  run : ∀ {M0 H0 M H : Hp} {σ : L2.St}, St X.K M0 H0 M H σ G → ∀ (Q : Bool → Hp → Prop), (∀ M' H', Nx M H M' H' → Q b H') → wT X e σ H Q
def wW (X : Cx) (e : Expr) : TT := fun σ H Q => ∃ te, PW X e te ∧ te σ H Q
theorem pw_w {X : Cx} {e : Expr} : PW X e (wW X e) := ⟨fun wh pins s σ H Q I ⟨_, p, h⟩ => p.run wh pins s σ H Q I h⟩
structure TW (X : Cx) (G : List Sl) (e : Expr) (b : Bool) : Prop where
  run : ∀ {M0 H0 M H : Hp} {σ : L2.St}, St X.K M0 H0 M H σ G → ∀ (Q : Bool → Hp → Prop), (∀ M' H', Nx M H M' H' → Q b H') → wW X e σ H Q
inductive Reps (K : Fg) (M : Hp) : List V → List Sl → Prop where
  | nil : Reps K M [] []
  | cons {α : Type} {t : Ty α} {x : α} {v : V} {vs : List V} {ss : List Sl} (h : t.rep K M v x) (r : Reps K M vs ss) : Reps K M (v :: vs) (.vl t x :: ss)
/-- arguments -/
structure EA (X : Cx) (G : List Sl) (es : List Expr) (ss : List Sl) : Prop where
  run : ∀ {M0 H0 M H : Hp} {σ : L2.St}, St X.K M0 H0 M H σ G → ∀ (Q : List V → Hp → Prop), (∀ vs M' H', Nx M H M' H' → Reps X.K M' vs ss → Q vs H') → wA X es σ H Q
/-- items of one type -/
structure EH (X : Cx) (G : List Sl) (es : List Expr) (t : Ty α) (xs : List α) : Prop where
  run : ∀ {M0 H0 M H : Hp} {σ : L2.St}, St X.K M0 H0 M H σ G → ∀ (Q : List V → Hp → Prop), (∀ vs M' H', Nx M H M' H' → Paired (t.rep X.K M') vs xs → Q vs H') → wA X es σ H Q
/-- a new list, not yet frozen -/
structure EL (X : Cx) (G : List Sl) (e : Expr) (t : Ty α) (xs : List α) : Prop where
  run : ∀ {M0 H0 M H : Hp} {σ : L2.St}, St X.K M0 H0 M H σ G → ∀ (Q : VK), (∀ p M' H' vs, Nx M H M' H' → H p = none → M' p = none → H' p = some (.lst vs) → Paired (t.rep X.K M') vs xs → Q (.ref p) H') → wE X e σ H Q
end

section
variable {α β γ : Type} {X : Cx} {G : List Sl} {a b c e : Expr} {es rest : List Expr} {s : Ty α} {t : Ty β} {u : Ty γ} {x : α} {y : β} {z : γ} {pos : Pos}

theorem E.is {x' : α} (h : E X G e s x) (q : x = x') : E X G e s x' := q ▸ h
theorem E.as (h : E X G e s x) (q : ∀ M v, s.rep X.K M v x → t.rep X.K M v y) : E X G e t y := ⟨fun S Q k => h.run S Q fun v M' H' n r => k v M' H' n (q M' v r)⟩
theorem E.weak {G' : List Sl} (h : E X G' e s x) (w : Sub G G') : E X G e s x := ⟨fun S Q k => h.run (S.weak w) Q k⟩
theorem EL.toE {xs : List α} (h : EL X G e s xs) : E X G e (tLst s) xs := ⟨fun S Q k => h.run S Q fun p M' H' vs n hp mp hh r =>
  k (.ref p) (upd M' p (.lst vs)) H' ⟨n.ex, n.vx.trans (same_new mp), fun b o q => by
    by_cases z : b = p
    · subst z; rw [upd_same] at q; cases q; exact hh
    · rw [upd_ne z] at q; exact n.sub b o q, fun b n1 n2 => by
    rw [upd_ne (fun z => n2 (by rw [z]; exact hp))]; exact n.fr b n1 n2⟩ ⟨p, vs, rfl, upd_same, paired_imp (fun _ _ q => s.ext (same_new mp) q) r⟩⟩

/-! ### names, constants -/
theorem e_var (i : Nat) {n : Str} (h : G[i]? = some (.vl s x) := by rfl) (hN : X.N[i]? = some n := by rfl)
    (hv : Vis X.env.scope n := by first | exact Or.inl rfl | exact Or.inr (Or.inl rfl) | exact Or.inr (Or.inr rfl)) (hd : (n == ("__debug__" : Str)) = false := by decide)
    (hcd : (n == ("__classdict__" : Str)) = false := by decide) : E X G (.Name n pos) s x := ⟨fun {M0 H0 M H σ} S Q k => by
  obtain ⟨v, e, r⟩ := S.get h
  exact ⟨_, pe_var hN hv hd hcd, v, e, k v M H (Nx.refl S.sub) r⟩⟩
theorem e_int {i : Int} {j : Nat} : E X G (.Constant (.int i) j pos) tI i := ⟨fun {M0 H0 M H σ} S Q k => ⟨_, pe_int, k _ M H (Nx.refl S.sub) rfl⟩⟩
theorem e_bl {i : Bool} {j : Nat} : E X G (.Constant (.bool i) j pos) tB i := ⟨fun {M0 H0 M H σ} S Q k => ⟨_, pe_bl, k _ M H (Nx.refl S.sub) rfl⟩⟩
theorem e_non {j : Nat} : E X G (.Constant .none j pos) tN () := ⟨fun {M0 H0 M H σ} S Q k => ⟨_, pe_non, k _ M H (Nx.refl S.sub) rfl⟩⟩
theorem e_str {i : Str} {j : Nat} : E X G (.Constant (.str i) j pos) tS i := ⟨fun {M0 H0 M H σ} S Q k => ⟨_, pe_str, k _ M H (Nx.refl S.sub) rfl⟩⟩
/-- a class as a value -/
def tC : Ty V := ⟨fun _ _ v x => v = x, fun _ h => h⟩
theorem e_ty {n : Str} {nm : String} (hm : X.mg n = none) (hv : bootBuiltins n = some (.type nm) := by decide +kernel) (hg : Gl X n := by rfl) (hn : n ≠ "__name__" := by decide) (hd : (n == ("__debug__" : Str)) = false := by decide) : E X G (.Name n pos) tC (.ty nm) :=
  ⟨fun {M0 H0 M H σ} S Q k => ⟨_, pe_bltn hg hm hv (show RelV (.ty nm) (.type nm) from rfl) hn hd, k _ M H (Nx.refl S.sub) rfl⟩⟩
theorem e_cls {n : Str} {C : Addr} (hm : X.mg n = some (.ref C)) (hg : Gl X n := by rfl) (hd : (n == ("__debug__" : Str)) = false := by decide) : E X G (.Name n pos) tC (.ref C) :=
  ⟨fun {M0 H0 M H σ} S Q k => ⟨_, pe_glob hg hm (show RelV (.ref C) (.ref C) from rfl) hd, k _ M H (Nx.refl S.sub) rfl⟩⟩

/-! ### operators -/
theorem e_op2 {op : Operator} {r : R2} (ho : OpR X (binaryOp op) r) (ha : E X G a s x) (hb : E X G b t y)
    (hr : ∀ (M H : Hp) (v w : V) (Q : VK), Same M H → s.rep X.K M v x → t.rep X.K M w y → (∀ q M' H', Nx M H M' H' → u.rep X.K M' q z → Q q H') → r v w H Q) : E X G (.BinOp a op b pos) u z := ⟨fun S Q k =>
  ⟨_, pe_op ho pe_w pe_w, ha.run S _ fun v M1 H1 n1 r1 => hb.run (S.next n1) _ fun w M2 H2 n2 r2 => hr M2 H2 v w Q n2.sub (s.ext n2.vx r1) r2 fun q M3 H3 n3 r3 => k q M3 H3 ((n1.trans n2).trans n3) r3⟩⟩
/-- .. that makes a new list -/
theorem el_op2 {op : Operator} {r : R2} {zs : List γ} (ho : OpR X (binaryOp op) r) (ha : E X G a s x) (hb : E X G b t y)
    (hr : ∀ (M H : Hp) (v w : V) (Q : VK), Same M H → s.rep X.K M v x → t.rep X.K M w y → (∀ p M' H' vs, Nx M H M' H' → H p = none → M' p = none → H' p = some (.lst vs) → Paired (u.rep X.K M') vs zs → Q (.ref p) H') → r v w H Q) : EL X G (.BinOp a op b pos) u zs := ⟨fun {M0 H0 M H σ} S Q k =>
  ⟨_, pe_op ho pe_w pe_w, ha.run S _ fun v M1 H1 n1 r1 => hb.run (S.next n1) _ fun w M2 H2 n2 r2 => hr M2 H2 v w Q n2.sub (s.ext n2.vx r1) r2 fun p M3 H3 vs n3 hp mp hh r3 => k p M3 H3 vs ((n1.trans n2).trans n3) ((n1.trans n2).ex.free hp) mp hh r3⟩⟩
theorem e_un {op : UnaryOp} {r : V → Hp → VK → Prop} (ho : UnR X (unaryOp op) r) (ha : E X G a s x)
    (hr : ∀ (M H : Hp) (v : V) (Q : VK), Same M H → s.rep X.K M v x → (∀ q M' H', Nx M H M' H' → u.rep X.K M' q z → Q q H') → r v H Q) : E X G (.UnaryOp op a pos) u z := ⟨fun S Q k =>
  ⟨_, pe_un ho pe_w, ha.run S _ fun v M1 H1 n1 r1 => hr M1 H1 v Q n1.sub r1 fun q M3 H3 n3 r3 => k q M3 H3 (n1.trans n3) r3⟩⟩
variable {i j : Int}
theorem e_add (ha : E X G a tI i) (hb : E X G b tI j) : E X G (.BinOp a .Add b pos) tI (i + j) := e_op2 op_add ha hb fun M H v w Q m h1 h2 k => ⟨i, j, h1, h2, k _ M H (Nx.refl m) rfl⟩
theorem e_sub (ha : E X G a tI i) (hb : E X G b tI j) : E X G (.BinOp a .Sub b pos) tI (i - j) := e_op2 op_sub ha hb fun M H v w Q m h1 h2 k => ⟨i, j, h1, h2, k _ M H (Nx.refl m) rfl⟩
theorem e_mulL (ha : E X G a tI i) (hb : E X G b tI j) (h : -18446744073709551616 < i ∧ i < 18446744073709551616) : E X G (.BinOp a .Mult b pos) tI (i * j) := e_op2 op_mul ha hb fun M H v w Q m h1 h2 k => ⟨i, j, h1, h2, .inl h, k _ M H (Nx.refl m) rfl⟩
theorem e_mulR (ha : E X G a tI i) (hb : E X G b tI j) (h : -18446744073709551616 < j ∧ j < 18446744073709551616) : E X G (.BinOp a .Mult b pos) tI (i * j) := e_op2 op_mul ha hb fun M H v w Q m h1 h2 k => ⟨i, j, h1, h2, .inr h, k _ M H (Nx.refl m) rfl⟩
theorem e_mod (ha : E X G a tI i) (hb : E X G b tI j) (h : 0 < j) : E X G (.BinOp a .Mod b pos) tI (i % j) := e_op2 op_mod ha hb fun M H v w Q m h1 h2 k => ⟨i, j, h1, h2, h, k _ M H (Nx.refl m) rfl⟩
theorem e_div (ha : E X G a tI i) (hb : E X G b tI j) (h : 0 < j ∧ j < 1073741824) : E X G (.BinOp a .FloorDiv b pos) tI (i / j) := e_op2 op_fdiv ha hb fun M H v w Q m h1 h2 k => ⟨i, j, h1, h2, h, k _ M H (Nx.refl m) rfl⟩
theorem e_divW (ha : E X G a tI i) (hb : E X G b tI j) (h : 0 < j ∧ j.natAbs < 2 ^ 9000) : E X G (.BinOp a .FloorDiv b pos) tI (i / j) := e_op2 op_fdivW ha hb fun M H v w Q m h1 h2 k => ⟨i, j, h1, h2, wide_div h.1 h.2 (by decide) (by decide), k _ M H (Nx.refl m) rfl⟩
theorem e_pow (ha : E X G a tI i) (hb : E X G b tI j) (h : 0 ≤ j ∧ j ≤ 1000000 ∧ i.natAbs < 2 ^ 64) : E X G (.BinOp a .Pow b pos) tI (i ^ j.toNat) := e_op2 op_pow ha hb fun M H v w Q m h1 h2 k => ⟨i, j, h1, h2, h, k _ M H (Nx.refl m) rfl⟩
theorem e_neg (ha : E X G a tI i) : E X G (.UnaryOp .USub a pos) tI (-i) := e_un un_neg ha fun M H v Q m h1 k => ⟨i, h1, k _ M H (Nx.refl m) rfl⟩
/-- a comparison, as a value and as a test -/
theorem e_cmp {op : CmpOp} {r : R2} {d : Bool} (ho : OpR X (compareOp op) r) (ha : E X G a s x) (hb : E X G b t y)
    (hr : ∀ (M H : Hp) (v w : V) (Q : VK), Same M H → s.rep X.K M v x → t.rep X.K M w y → (∀ M' H', Nx M H M' H' → Q (.bl d) H') → r v w H Q) (hm : behindInMarks op b = false) : E X G (.Compare a [op] [b] pos) tB d := ⟨fun S Q k =>
  ⟨_, pe_cmpR ho pe_w pe_w hm, ha.run S _ fun v M1 H1 n1 r1 => hb.run (S.next n1) _ fun w M2 H2 n2 r2 => hr M2 H2 v w Q n2.sub (s.ext n2.vx r1) r2 fun M3 H3 n3 => k _ M3 H3 ((n1.trans n2).trans n3) rfl⟩⟩
theorem t_cmp {op : CmpOp} {r : R2} {d : Bool} (ho : OpR X (compareOp op) r) (ha : E X G a s x) (hb : E X G b t y)
    (hr : ∀ (M H : Hp) (v w : V) (Q : VK), Same M H → s.rep X.K M v x → t.rep X.K M w y → (∀ M' H', Nx M H M' H' → Q (.bl d) H') → r v w H Q) (hm : behindInMarks op b = false) : T X G (.Compare a [op] [b] pos) d := ⟨fun S Q k =>
  ⟨_, pt_cmpR ho pe_w pe_w hm, ha.run S _ fun v M1 H1 n1 r1 => hb.run (S.next n1) _ fun w M2 H2 n2 r2 => hr M2 H2 v w _ n2.sub (s.ext n2.vx r1) r2 fun M3 H3 n3 => ⟨d, rfl, k M3 H3 ((n1.trans n2).trans n3)⟩⟩⟩
/-- what a comparison of values says -/
structure CmpV (X : Cx) (op : CmpOp) (s : Ty α) (t : Ty β) (x : α) (y : β) (d : Bool) : Prop where
  r : ∃ r : R2, OpR X (compareOp op) r ∧ ∀ (M H : Hp) (v w : V) (Q : VK), Same M H → s.rep X.K M v x → t.rep X.K M w y → (∀ M' H', Nx M H M' H' → Q (.bl d) H') → r v w H Q
theorem e_cv {op : CmpOp} {d : Bool} (ha : E X G a s x) (hb : E X G b t y) (c : CmpV X op s t x y d) (hm : behindInMarks op b = false := by first | exact nomark _ | rfl) : E X G (.Compare a [op] [b] pos) tB d := by
  obtain ⟨r, ho, hr⟩ := c.r
  exact e_cmp ho ha hb hr hm
theorem t_cv {op : CmpOp} {d : Bool} (ha : E X G a s x) (hb : E X G b t y) (c : CmpV X op s t x y d) (hm : behindInMarks op b = false := by first | exact nomark _ | rfl) : T X G (.Compare a [op] [b] pos) d := by
  obtain ⟨r, ho, hr⟩ := c.r
  exact t_cmp ho ha hb hr hm
theorem cv_lt : CmpV X .Lt tI tI i j (decide (i < j)) := ⟨_, op_lt, fun M H v w Q m h1 h2 k => ⟨i, j, h1, h2, k M H (Nx.refl m)⟩⟩
theorem cv_le : CmpV X .LtE tI tI i j (decide (i ≤ j)) := ⟨_, op_le, fun M H v w Q m h1 h2 k => ⟨i, j, h1, h2, k M H (Nx.refl m)⟩⟩
theorem cv_gt : CmpV X .Gt tI tI i j (decide (j < i)) := ⟨_, op_gt, fun M H v w Q m h1 h2 k => ⟨i, j, h1, h2, k M H (Nx.refl m)⟩⟩
theorem cv_ge : CmpV X .GtE tI tI i j (decide (j ≤ i)) := ⟨_, op_ge, fun M H v w Q m h1 h2 k => ⟨i, j, h1, h2, k M H (Nx.refl m)⟩⟩
theorem dec_vint : decide (V.int i = V.int j) = decide (i = j) := by
  by_cases h : i = j
  · subst h; simp
  · rw [decide_eq_false h, decide_eq_false]; intro q; cases q; exact h rfl
theorem dec_vstr {i j : Str} : decide (V.str i = V.str j) = decide (i = j) := by
  by_cases h : i = j
  · subst h; simp
  · rw [decide_eq_false h, decide_eq_false]; intro q; cases q; exact h rfl
theorem dec_vbl {i j : Bool} : decide (V.bl i = V.bl j) = decide (i = j) := by
  by_cases h : i = j
  · subst h; simp
  · rw [decide_eq_false h, decide_eq_false]; intro q; cases q; exact h rfl
theorem cv_eqI : CmpV X .Eq tI tI i j (decide (i = j)) := ⟨_, op_eq, fun M H v w Q m h1 h2 k => by
  cases h1; cases h2; exact ⟨rfl, by rw [dec_vint]; exact k M H (Nx.refl m)⟩⟩
theorem cv_neI : CmpV X .NotEq tI tI i j (!decide (i = j)) := ⟨_, op_ne, fun M H v w Q m h1 h2 k => by
  cases h1; cases h2; exact ⟨rfl, by rw [dec_vint]; exact k M H (Nx.refl m)⟩⟩
theorem cv_eqS {i j : Str} : CmpV X .Eq tS tS i j (decide (i = j)) := ⟨_, op_eq, fun M H v w Q m h1 h2 k => by
  cases h1; cases h2; exact ⟨rfl, by rw [dec_vstr]; exact k M H (Nx.refl m)⟩⟩
theorem cv_neS {i j : Str} : CmpV X .NotEq tS tS i j (!decide (i = j)) := ⟨_, op_ne, fun M H v w Q m h1 h2 k => by
  cases h1; cases h2; exact ⟨rfl, by rw [dec_vstr]; exact k M H (Nx.refl m)⟩⟩
theorem cv_isN {s : Ty α} {x : α} {d : Bool} (h : ∀ M v, s.rep X.K M v x → decide (v = V.non) = d) : CmpV X .Is s tN x () d := ⟨_, op_isN, fun M H v w Q m h1 h2 k => by
  cases h2; exact ⟨rfl, by rw [h M v h1]; exact k M H (Nx.refl m)⟩⟩
theorem cv_isnotN {s : Ty α} {x : α} {d : Bool} (h : ∀ M v, s.rep X.K M v x → decide (v = V.non) = d) : CmpV X .IsNot s tN x () (!d) := ⟨_, op_notN, fun M H v w Q m h1 h2 k => by
  cases h2; exact ⟨rfl, by rw [h M v h1]; exact k M H (Nx.refl m)⟩⟩
/-- two data at any depth -/
theorem cv_eqD {k : Nat} (hr : Room k X.A) {d e : PyData} (sd : SeqAt.shaped d = true) (se : SeqAt.shaped e = true) (hs : ∀ M v, s.rep X.K M v x → Dp X.K M v d) (ht : ∀ M v, t.rep X.K M v y → Dp X.K M v e) : CmpV X .Eq s t x y (PyData.eqv d e) :=
  ⟨_, op_eqD hr.units, fun M H v w Q m h1 h2 k => ⟨d, e, dp_ext m d v (hs M v h1), dp_ext m e w (ht M w h2), sd, se, k M H (Nx.refl m)⟩⟩
theorem cv_neD {k : Nat} (hr : Room k X.A) {d e : PyData} (sd : SeqAt.shaped d = true) (se : SeqAt.shaped e = true) (hs : ∀ M v, s.rep X.K M v x → Dp X.K M v d) (ht : ∀ M v, t.rep X.K M v y → Dp X.K M v e) : CmpV X .NotEq s t x y (!PyData.eqv d e) :=
  ⟨_, op_neD hr.units, fun M H v w Q m h1 h2 k => ⟨d, e, dp_ext m d v (hs M v h1), dp_ext m e w (ht M w h2), sd, se, k M H (Nx.refl m)⟩⟩
/-- a < b < c -/
theorem e_chain {op op' : CmpOp} {d d' : Bool} (ha : E X G a s x) (hb : E X G b t y) (hc : E X G c u z) (c1 : CmpV X op s t x y d) (c2 : d = true → CmpV X op' t u y z d') (h1 : ∀ r r', OpR X (compareOp op) r → OpR X (compareOp op') r' → PE X (.Compare a [op, op'] [b, c] pos) (tChain r r' (wE X a) (wE X b) (wE X c)) := by
    intro r r' h h'; exact pe_chain h h' pe_w pe_w pe_w) (r0 : ∃ r, OpR X (compareOp op') r) : E X G (.Compare a [op, op'] [b, c] pos) tB (d && d') := ⟨fun S Q k => by
  obtain ⟨r, ho, hr⟩ := c1.r
  cases d with
  | true =>
    obtain ⟨r', ho', hr'⟩ := (c2 rfl).r
    refine ⟨_, h1 r r' ho ho', ha.run S _ fun v M1 H1 n1 r1 => hb.run (S.next n1) _ fun w M2 H2 n2 r2 => hr M2 H2 v w _ n2.sub (s.ext n2.vx r1) r2 fun M3 H3 n3 => ⟨true, rfl, ?_⟩⟩
    rw [if_pos rfl]
    exact hc.run (S.next ((n1.trans n2).trans n3)) _ fun q M4 H4 n4 r4 => hr' M4 H4 w q Q n4.sub (t.ext (n3.vx.trans n4.vx) r2) r4 fun M5 H5 n5 => k _ M5 H5 ((((n1.trans n2).trans n3).trans n4).trans n5) rfl
  | false =>
    obtain ⟨r', ho'⟩ := r0
    refine ⟨_, h1 r r' ho ho', ha.run S _ fun v M1 H1 n1 r1 => hb.run (S.next n1) _ fun w M2 H2 n2 r2 => hr M2 H2 v w _ n2.sub (s.ext n2.vx r1) r2 fun M3 H3 n3 => ⟨false, rfl, ?_⟩⟩
    rw [if_neg (by decide)]
    exact k _ M3 H3 ((n1.trans n2).trans n3) rfl⟩
theorem t_chain {op op' : CmpOp} {d d' : Bool} (ha : E X G a s x) (hb : E X G b t y) (hc : E X G c u z) (c1 : CmpV X op s t x y d) (c2 : d = true → CmpV X op' t u y z d') (h1 : ∀ r r', OpR X (compareOp op) r → OpR X (compareOp op') r' → PT X (.Compare a [op, op'] [b, c] pos) (tTest (tChain r r' (wE X a) (wE X b) (wE X c))) := by
    intro r r' h h'; exact pt_chain h h' pe_w pe_w pe_w) (r0 : ∃ r, OpR X (compareOp op') r) : T X G (.Compare a [op, op'] [b, c] pos) (d && d') := ⟨fun S Q k => by
  obtain ⟨r, ho, hr⟩ := c1.r
  cases d with
  | true =>
    obtain ⟨r', ho', hr'⟩ := (c2 rfl).r
    refine ⟨_, h1 r r' ho ho', ha.run S _ fun v M1 H1 n1 r1 => hb.run (S.next n1) _ fun w M2 H2 n2 r2 => hr M2 H2 v w _ n2.sub (s.ext n2.vx r1) r2 fun M3 H3 n3 => ⟨true, rfl, ?_⟩⟩
    rw [if_pos rfl]
    exact hc.run (S.next ((n1.trans n2).trans n3)) _ fun q M4 H4 n4 r4 => hr' M4 H4 w q _ n4.sub (t.ext (n3.vx.trans n4.vx) r2) r4 fun M5 H5 n5 => ⟨_, rfl, k M5 H5 ((((n1.trans n2).trans n3).trans n4).trans n5)⟩
  | false =>
    obtain ⟨r', ho'⟩ := r0
    refine ⟨_, h1 r r' ho ho', ha.run S _ fun v M1 H1 n1 r1 => hb.run (S.next n1) _ fun w M2 H2 n2 r2 => hr M2 H2 v w _ n2.sub (s.ext n2.vx r1) r2 fun M3 H3 n3 => ⟨false, rfl, ?_⟩⟩
    rw [if_neg (by decide)]
    exact ⟨_, rfl, k M3 H3 ((n1.trans n2).trans n3)⟩⟩

/-! ### truth -/
variable {p q : Bool}
theorem t_val (h : E X G e tB p) (he : ∀ whole, isTrue e X.env whole = (do let v ← whole; standAt e.pos; holding [v] (truthy v)) := by intro _; rfl) : T X G e p := ⟨fun S Q k =>
  ⟨_, pt_val pe_w he, h.run S _ fun v M1 H1 n1 r1 => ⟨p, r1, k M1 H1 n1⟩⟩⟩
theorem TW.toT (h : TW X G e p) : T X G e p := ⟨fun S Q k => ⟨_, pw_w.pt, h.run S Q k⟩⟩
theorem w_and1 (h : T X G a p) : TW X G (.BoolOp .And [a] pos) p := ⟨fun S Q k => ⟨_, pw_and1 pt_w, h.run S Q k⟩⟩
theorem w_or1 (h : T X G a p) : TW X G (.BoolOp .Or [a] pos) p := ⟨fun S Q k => ⟨_, pw_or1 pt_w, h.run S Q k⟩⟩
theorem w_and (h : T X G a p) (h2 : p = true → TW X G (.BoolOp .And (b :: rest) pos) q) : TW X G (.BoolOp .And (a :: b :: rest) pos) (p && q) := ⟨fun S Q k =>
  ⟨_, pw_and pt_w pw_w, h.run S _ fun M1 H1 n1 => by
    cases p with
    | true => rw [if_pos rfl]; exact (h2 rfl).run (S.next n1) _ fun M2 H2 n2 => k M2 H2 (n1.trans n2)
    | false => rw [if_neg (by decide)]; exact k M1 H1 n1⟩⟩
theorem w_or (h : T X G a p) (h2 : p = false → TW X G (.BoolOp .Or (b :: rest) pos) q) : TW X G (.BoolOp .Or (a :: b :: rest) pos) (p || q) := ⟨fun S Q k =>
  ⟨_, pw_or pt_w pw_w, h.run S _ fun M1 H1 n1 => by
    cases p with
    | false => rw [if_neg (by decide)]; exact (h2 rfl).run (S.next n1) _ fun M2 H2 n2 => k M2 H2 (n1.trans n2)
    | true => rw [if_pos rfl]; exact k M1 H1 n1⟩⟩
theorem t_not (h : T X G a p) : T X G (.UnaryOp .Not a pos) (!p) := ⟨fun S Q k => ⟨_, pt_not pt_w, h.run S _ fun M1 H1 n1 => k M1 H1 n1⟩⟩
theorem e_one {op} (h : E X G a tB p) : E X G (.BoolOp op [a] pos) tB p := ⟨fun S Q k => ⟨_, pe_one pe_w, h.run S Q k⟩⟩
theorem e_and (h : E X G a tB p) (h2 : p = true → E X G (.BoolOp .And (b :: rest) pos) tB q) : E X G (.BoolOp .And (a :: b :: rest) pos) tB (p && q) := ⟨fun S Q k =>
  ⟨_, pe_and pe_w pe_w, h.run S _ fun v M1 H1 n1 r1 => ⟨p, r1, by
    cases p with
    | true => rw [if_pos rfl]; exact (h2 rfl).run (S.next n1) _ fun v M2 H2 n2 r2 => k v M2 H2 (n1.trans n2) r2
    | false => rw [if_neg (by decide)]; exact k _ M1 H1 n1 rfl⟩⟩⟩
theorem e_or (h : E X G a tB p) (h2 : p = false → E X G (.BoolOp .Or (b :: rest) pos) tB q) : E X G (.BoolOp .Or (a :: b :: rest) pos) tB (p || q) := ⟨fun S Q k =>
  ⟨_, pe_or pe_w pe_w, h.run S _ fun v M1 H1 n1 r1 => ⟨p, r1, by
    cases p with
    | false => rw [if_neg (by decide)]; exact (h2 rfl).run (S.next n1) _ fun v M2 H2 n2 r2 => k v M2 H2 (n1.trans n2) r2
    | true => rw [if_pos rfl]; exact k _ M1 H1 n1 rfl⟩⟩⟩
theorem e_not (h : E X G a tB p) : E X G (.UnaryOp .Not a pos) tB (!p) := ⟨fun S Q k => ⟨_, pe_not pe_w, h.run S _ fun v M1 H1 n1 r1 => ⟨p, r1, k _ M1 H1 n1 rfl⟩⟩⟩
theorem e_if {x y : α} (h : T X G c p) (h1 : p = true → E X G a s x) (h2 : p = false → E X G b s y) : E X G (.IfExp c a b pos) s (if p = true then x else y) := ⟨fun S Q k =>
  ⟨_, pe_ifExp pt_w pe_w pe_w, h.run S _ fun M1 H1 n1 => by
    cases p with
    | true => rw [if_pos rfl] at *; exact (h1 rfl).run (S.next n1) _ fun v M2 H2 n2 r2 => k v M2 H2 (n1.trans n2) r2
    | false => rw [if_neg (by decide)] at *; exact (h2 rfl).run (S.next n1) _ fun v M2 H2 n2 r2 => k v M2 H2 (n1.trans n2) r2⟩⟩

/-! ### arguments, displays -/
variable {ss : List Sl} {xs ys : List α}
theorem ea_nil : EA X G [] [] := ⟨fun {M0 H0 M H σ} S Q k => ⟨_, pa_nil, k [] M H (Nx.refl S.sub) .nil⟩⟩
theorem reps_ext {K : Fg} {M M' : Hp} (e : Same M M') : ∀ {vs : List V} {ss : List Sl}, Reps K M vs ss → Reps K M' vs ss
  | _, _, .nil => .nil
  | _, _, .cons h t => .cons (Ty.ext _ e h) (reps_ext e t)
theorem ea_cons (h : E X G e s x) (hr : EA X G es ss) (hs : starEach (e :: es) X.env = (false, eval e X.env) :: starEach es X.env := by rfl) : EA X G (e :: es) (.vl s x :: ss) := ⟨fun S Q k =>
  ⟨_, pa_cons pe_w pa_w hs, h.run S _ fun v M1 H1 n1 r1 => hr.run (S.next n1) _ fun vs M2 H2 n2 r2 => k _ M2 H2 (n1.trans n2) (.cons (s.ext n2.vx r1) r2)⟩⟩
theorem eh_nil : EH X G [] s [] := ⟨fun {M0 H0 M H σ} S Q k => ⟨_, pa_nil, k [] M H (Nx.refl S.sub) .nil⟩⟩
theorem eh_cons (h : E X G e s x) (hr : EH X G es s xs) (hs : starEach (e :: es) X.env = (false, eval e X.env) :: starEach es X.env := by rfl) : EH X G (e :: es) s (x :: xs) := ⟨fun S Q k =>
  ⟨_, pa_cons pe_w pa_w hs, h.run S _ fun v M1 H1 n1 r1 => hr.run (S.next n1) _ fun vs M2 H2 n2 r2 => k _ M2 H2 (n1.trans n2) (.cons (s.ext n2.vx r1) r2)⟩⟩
theorem paired_same {F G' : V → α → Prop} {vs : List V} {xs : List α} (h : Paired F vs xs) (f : ∀ a b, F a b → G' a b) : Paired G' vs xs := paired_imp f h
theorem e_tup {n : Nat} (h : EH X G es s xs) (hl : xs.length ≤ 1000000 := by first | decide | simp) : E X G (.Tuple es n pos) (tTup s) xs := ⟨fun S Q k =>
  ⟨_, pe_tup pa_w, h.run S _ fun vs M1 H1 n1 r1 => ⟨by rw [r1.length]; exact Nat.le_trans hl (by decide), fun p hp =>
    k _ _ _ (n1.trans (Nx.new n1.sub hp)) ⟨p, vs, rfl, .inl (.inl upd_same), paired_imp (fun _ _ q => s.ext (same_new (same_none n1.sub hp)) q) r1⟩⟩⟩⟩
theorem el_lst (h : EH X G es s xs) (hl : xs.length ≤ 1000000 := by first | decide | simp) : EL X G (.List es pos) s xs := ⟨fun {M0 H0 M H σ} S Q k =>
  ⟨_, pe_lst pa_w, h.run S _ fun vs M1 H1 n1 r1 => ⟨by rw [r1.length]; exact Nat.le_trans hl (by decide), fun p hp =>
    k p M1 _ vs ⟨n1.ex.trans (same_new hp), n1.vx, n1.sub.trans (same_new hp), n1.fr⟩ (n1.ex.free hp) (same_none n1.sub hp) upd_same r1⟩⟩⟩
theorem e_p2 {n : Nat} (ha : E X G a s x) (hb : E X G b t y) (hs : starEach [a, b] X.env = (false, eval a X.env) :: starEach [b] X.env := by rfl) (hs2 : starEach [b] X.env = (false, eval b X.env) :: starEach [] X.env := by rfl) : E X G (.Tuple [a, b] n pos) (tP2 s t) (x, y) := ⟨fun S Q k =>
  ⟨_, pe_tup (pa_cons pe_w (pa_cons pe_w pa_nil hs2) hs), ha.run S _ fun v M1 H1 n1 r1 => hb.run (S.next n1) _ fun w M2 H2 n2 r2 => ⟨by show 2 ≤ sizeLine; decide, fun p hp => by
    have nn := Nx.new (o := .tup [v, w]) n2.sub hp
    exact k _ _ _ ((n1.trans n2).trans nn) ⟨p, v, w, rfl, .inl (.inl upd_same), s.ext (n2.vx.trans nn.vx) r1, t.ext nn.vx r2⟩⟩⟩⟩
theorem e_p3 {n : Nat} (ha : E X G a s x) (hb : E X G b t y) (hc : E X G c u z) (hs : starEach [a, b, c] X.env = (false, eval a X.env) :: starEach [b, c] X.env := by rfl) (hs2 : starEach [b, c] X.env = (false, eval b X.env) :: starEach [c] X.env := by rfl) (hs3 : starEach [c] X.env = (false, eval c X.env) :: starEach [] X.env := by rfl) : E X G (.Tuple [a, b, c] n pos) (tP3 s t u) (x, y, z) := ⟨fun S Q k =>
  ⟨_, pe_tup (pa_cons pe_w (pa_cons pe_w (pa_cons pe_w pa_nil hs3) hs2) hs), ha.run S _ fun v M1 H1 n1 r1 => hb.run (S.next n1) _ fun w M2 H2 n2 r2 => hc.run (S.next (n1.trans n2)) _ fun w3 M3 H3 n3 r3 => ⟨by show 3 ≤ sizeLine; decide, fun p hp => by
    have nn := Nx.new (o := .tup [v, w, w3]) n3.sub hp
    exact k _ _ _ (((n1.trans n2).trans n3).trans nn) ⟨p, v, w, w3, rfl, .inl (.inl upd_same), s.ext ((n2.vx.trans n3.vx).trans nn.vx) r1, t.ext (n3.vx.trans nn.vx) r2, u.ext nn.vx r3⟩⟩⟩⟩
theorem e_p4 {δ : Type} {t4 : Ty δ} {w0 : δ} {d : Expr} {n : Nat} (ha : E X G a s x) (hb : E X G b t y) (hc : E X G c u z) (hd : E X G d t4 w0) (hs : starEach [a, b, c, d] X.env = (false, eval a X.env) :: starEach [b, c, d] X.env := by rfl) (hs2 : starEach [b, c, d] X.env = (false, eval b X.env) :: starEach [c, d] X.env := by rfl) (hs3 : starEach [c, d] X.env = (false, eval c X.env) :: starEach [d] X.env := by rfl) (hs4 : starEach [d] X.env = (false, eval d X.env) :: starEach [] X.env := by rfl) : E X G (.Tuple [a, b, c, d] n pos) (tP4 s t u t4) (x, y, z, w0) := ⟨fun S Q k =>
  ⟨_, pe_tup (pa_cons pe_w (pa_cons pe_w (pa_cons pe_w (pa_cons pe_w pa_nil hs4) hs3) hs2) hs), ha.run S _ fun v M1 H1 n1 r1 => hb.run (S.next n1) _ fun w M2 H2 n2 r2 => hc.run (S.next (n1.trans n2)) _ fun w3 M3 H3 n3 r3 => hd.run (S.next ((n1.trans n2).trans n3)) _ fun w4 M4 H4 n4 r4 => ⟨by show 4 ≤ sizeLine; decide, fun p hp => by
    have nn := Nx.new (o := .tup [v, w, w3, w4]) n4.sub hp
    exact k _ _ _ ((((n1.trans n2).trans n3).trans n4).trans nn) ⟨p, v, w, w3, w4, rfl, .inl (.inl upd_same), s.ext (((n2.vx.trans n3.vx).trans n4.vx).trans nn.vx) r1, t.ext ((n3.vx.trans n4.vx).trans nn.vx) r2, u.ext (n4.vx.trans nn.vx) r3, t4.ext nn.vx r4⟩⟩⟩⟩
end
end TL

namespace TL
open PySem L2

/-! ### lists as they are indexed and cut -/
section
variable {α β : Type}
/-- xs[i], any sign -/
def ix [Inhabited α] (xs : List α) (i : Int) : α := (atI xs i).getD default
theorem atI_pos {xs : List α} {i : Int} (h0 : 0 ≤ i) (h1 : i < xs.length) : ∃ x, xs[i.toNat]? = some x ∧ atI xs i = some x := by
  have hl : i.toNat < xs.length := by omega
  refine ⟨xs[i.toNat], List.getElem?_eq_getElem hl, ?_⟩
  have := atI_nat (List.getElem?_eq_getElem hl)
  rw [Int.toNat_of_nonneg h0] at this
  exact this
theorem atI_neg {xs : List α} {i : Int} (h0 : i < 0) (h1 : -(xs.length : Int) ≤ i) : ∃ x, xs[(i + xs.length).toNat]? = some x ∧ atI xs i = some x := by
  have hl : (i + xs.length).toNat < xs.length := by omega
  refine ⟨xs[(i + xs.length).toNat], List.getElem?_eq_getElem hl, ?_⟩
  unfold atI ixN
  rw [if_neg (by omega), if_pos h1]
  simp only [Option.bind_some]
  exact List.getElem?_eq_getElem hl
theorem atI_ix [Inhabited α] {xs : List α} {i : Int} (h0 : -(xs.length : Int) ≤ i) (h1 : i < xs.length) : atI xs i = some (ix xs i) := by
  unfold ix
  rcases Int.lt_or_le i 0 with h | h
  · obtain ⟨x, _, q⟩ := atI_neg h h0; rw [q]; rfl
  · obtain ⟨x, _, q⟩ := atI_pos h h1; rw [q]; rfl
theorem ix_pos [Inhabited α] {xs : List α} {i : Int} (h0 : 0 ≤ i) (h1 : i < xs.length) : xs[i.toNat]? = some (ix xs i) := by
  obtain ⟨x, q1, q2⟩ := atI_pos h0 h1
  unfold ix; rw [q2, q1]; rfl
theorem ix_mem [Inhabited α] {xs : List α} {i : Int} (h0 : 0 ≤ i) (h1 : i < xs.length) : ix xs i ∈ xs := List.mem_of_getElem? (ix_pos h0 h1)
theorem atI_paired {F : V → α → Prop} {vs : List V} {xs : List α} {i : Int} {x : α} (p : Paired F vs xs) (h : atI xs i = some x) : ∃ v, atI vs i = some v ∧ F v x := by
  unfold atI at h ⊢
  rw [p.length]
  cases e : ixN xs.length i with
  | none => rw [e] at h; cases h
  | some j =>
    rw [e] at h
    obtain ⟨v, h1, h2⟩ := paired_get p (show xs[j]? = some x from h)
    exact ⟨v, h1, h2⟩
/-- xs[lo:hi] -/
def cut (xs : List α) (lo hi : Option Int) : List α := (xs.drop (HT.sIx xs.length 0 lo)).take (HT.sIx xs.length xs.length hi - HT.sIx xs.length 0 lo)
theorem cut_paired {F : V → α → Prop} {vs : List V} {xs : List α} (lo hi : Option Int) (p : Paired F vs xs) : Paired F (cutV vs lo hi) (cut xs lo hi) := by
  unfold cutV cut
  rw [p.length]
  exact paired_take _ (paired_drop _ p)
end

section
variable {α β γ : Type} {X : Cx} {G : List Sl} {a b c e : Expr} {es rest : List Expr} {s : Ty α} {t : Ty β} {u : Ty γ} {x : α} {y : β} {z : γ} {pos : Pos} {i j : Int} {xs ys : List α} {p q : Bool}
/-! ### subscripts -/
theorem e_ixT (ha : E X G a (tTup s) xs) (hb : E X G b tI i) (h : atI xs i = some x) (hs : PlainIx b := by exact fun _ _ => rfl) : E X G (.Subscript a b pos) s x := ⟨fun S Q k =>
  ⟨_, pe_ix ix_tup pe_w pe_w hs, ha.run S _ fun v M1 H1 n1 r1 => hb.run (S.next n1) _ fun w M2 H2 n2 r2 => by
    obtain ⟨p, vs, e1, e2, e3⟩ := r1
    obtain ⟨v', g1, g2⟩ := atI_paired e3 h
    exact ⟨p, vs, i, v', e1, r2, sqT_ext (n2.vx.trans n2.sub) e2, g1, k v' M2 H2 (n1.trans n2) (s.ext n2.vx g2)⟩⟩⟩
theorem e_ixL (ha : E X G a (tLst s) xs) (hb : E X G b tI i) (h : atI xs i = some x) (hs : PlainIx b := by exact fun _ _ => rfl) : E X G (.Subscript a b pos) s x := ⟨fun S Q k =>
  ⟨_, pe_ix ix_list pe_w pe_w hs, ha.run S _ fun v M1 H1 n1 r1 => hb.run (S.next n1) _ fun w M2 H2 n2 r2 => by
    obtain ⟨p, vs, e1, e2, e3⟩ := r1
    obtain ⟨v', g1, g2⟩ := atI_paired e3 h
    exact ⟨p, vs, i, v', e1, r2, SqL.of (n2.sub _ _ (n2.vx _ _ e2)), g1, k v' M2 H2 (n1.trans n2) (s.ext n2.vx g2)⟩⟩⟩
theorem e_ixS (ha : E X G a (tSq s) xs) (hb : E X G b tI i) (h : atI xs i = some x) (hs : PlainIx b := by exact fun _ _ => rfl) : E X G (.Subscript a b pos) s x := ⟨fun S Q k =>
  ⟨_, pe_ix ix_list pe_w pe_w hs, ha.run S _ fun v M1 H1 n1 r1 => hb.run (S.next n1) _ fun w M2 H2 n2 r2 => by
    obtain ⟨p, vs, e1, e2, e3⟩ := r1
    obtain ⟨v', g1, g2⟩ := atI_paired e3 h
    exact ⟨p, vs, i, v', e1, r2, sqL_ext (n2.vx.trans n2.sub) e2, g1, k v' M2 H2 (n1.trans n2) (s.ext n2.vx g2)⟩⟩⟩
theorem e_2a {w : α × β} (ha : E X G a (tP2 s t) w) (hb : E X G b tI 0) (hs : PlainIx b := by exact fun _ _ => rfl) : E X G (.Subscript a b pos) s w.1 := ⟨fun S Q k =>
  ⟨_, pe_ix ix_tup pe_w pe_w hs, ha.run S _ fun v M1 H1 n1 r1 => hb.run (S.next n1) _ fun w M2 H2 n2 r2 => by
    obtain ⟨p, v1, v2, e1, e2, e3, e4⟩ := r1
    exact ⟨p, _, 0, v1, e1, r2, sqT_ext (n2.vx.trans n2.sub) e2, rfl, k v1 M2 H2 (n1.trans n2) (s.ext n2.vx e3)⟩⟩⟩
theorem e_2b {w : α × β} (ha : E X G a (tP2 s t) w) (hb : E X G b tI 1) (hs : PlainIx b := by exact fun _ _ => rfl) : E X G (.Subscript a b pos) t w.2 := ⟨fun S Q k =>
  ⟨_, pe_ix ix_tup pe_w pe_w hs, ha.run S _ fun v M1 H1 n1 r1 => hb.run (S.next n1) _ fun w M2 H2 n2 r2 => by
    obtain ⟨p, v1, v2, e1, e2, e3, e4⟩ := r1
    exact ⟨p, _, 1, v2, e1, r2, sqT_ext (n2.vx.trans n2.sub) e2, rfl, k v2 M2 H2 (n1.trans n2) (t.ext n2.vx e4)⟩⟩⟩
theorem e_4a {δ : Type} {t4 : Ty δ} {w : α × β × γ × δ} (ha : E X G a (tP4 s t u t4) w) (hb : E X G b tI 0) (hs : PlainIx b := by exact fun _ _ => rfl) : E X G (.Subscript a b pos) s w.1 := ⟨fun S Q k =>
  ⟨_, pe_ix ix_tup pe_w pe_w hs, ha.run S _ fun v M1 H1 n1 r1 => hb.run (S.next n1) _ fun w' M2 H2 n2 r2 => by
    obtain ⟨p, v1, v2, v3, v4, e1, e2, e3, e4, e5, e6⟩ := r1
    exact ⟨p, _, 0, v1, e1, r2, sqT_ext (n2.vx.trans n2.sub) e2, rfl, k v1 M2 H2 (n1.trans n2) (s.ext n2.vx e3)⟩⟩⟩
theorem e_4b {δ : Type} {t4 : Ty δ} {w : α × β × γ × δ} (ha : E X G a (tP4 s t u t4) w) (hb : E X G b tI 1) (hs : PlainIx b := by exact fun _ _ => rfl) : E X G (.Subscript a b pos) t w.2.1 := ⟨fun S Q k =>
  ⟨_, pe_ix ix_tup pe_w pe_w hs, ha.run S _ fun v M1 H1 n1 r1 => hb.run (S.next n1) _ fun w' M2 H2 n2 r2 => by
    obtain ⟨p, v1, v2, v3, v4, e1, e2, e3, e4, e5, e6⟩ := r1
    exact ⟨p, _, 1, v2, e1, r2, sqT_ext (n2.vx.trans n2.sub) e2, rfl, k v2 M2 H2 (n1.trans n2) (t.ext n2.vx e4)⟩⟩⟩
theorem e_4c {δ : Type} {t4 : Ty δ} {w : α × β × γ × δ} (ha : E X G a (tP4 s t u t4) w) (hb : E X G b tI 2) (hs : PlainIx b := by exact fun _ _ => rfl) : E X G (.Subscript a b pos) u w.2.2.1 := ⟨fun S Q k =>
  ⟨_, pe_ix ix_tup pe_w pe_w hs, ha.run S _ fun v M1 H1 n1 r1 => hb.run (S.next n1) _ fun w' M2 H2 n2 r2 => by
    obtain ⟨p, v1, v2, v3, v4, e1, e2, e3, e4, e5, e6⟩ := r1
    exact ⟨p, _, 2, v3, e1, r2, sqT_ext (n2.vx.trans n2.sub) e2, rfl, k v3 M2 H2 (n1.trans n2) (u.ext n2.vx e5)⟩⟩⟩
theorem e_4d {δ : Type} {t4 : Ty δ} {w : α × β × γ × δ} (ha : E X G a (tP4 s t u t4) w) (hb : E X G b tI 3) (hs : PlainIx b := by exact fun _ _ => rfl) : E X G (.Subscript a b pos) t4 w.2.2.2 := ⟨fun S Q k =>
  ⟨_, pe_ix ix_tup pe_w pe_w hs, ha.run S _ fun v M1 H1 n1 r1 => hb.run (S.next n1) _ fun w' M2 H2 n2 r2 => by
    obtain ⟨p, v1, v2, v3, v4, e1, e2, e3, e4, e5, e6⟩ := r1
    exact ⟨p, _, 3, v4, e1, r2, sqT_ext (n2.vx.trans n2.sub) e2, rfl, k v4 M2 H2 (n1.trans n2) (t4.ext n2.vx e6)⟩⟩⟩
/-- parts of a slice -/
structure EO (X : Cx) (G : List Sl) (e : Option Expr) (o : Option Int) : Prop where
  run : ∀ {M0 H0 M H : Hp} {σ : L2.St}, St X.K M0 H0 M H σ G → ∀ (Q : Option Int → Hp → Prop), (∀ M' H', Nx M H M' H' → Q o H') → ∃ te, PO X e te ∧ te σ H Q
theorem eo_none : EO X G none none := ⟨fun {M0 H0 M H σ} S Q k => ⟨_, po_none, k M H (Nx.refl S.sub)⟩⟩
theorem eo_some (h : E X G e tI i) : EO X G (some e) (some i) := ⟨fun S Q k => ⟨_, po_some pe_w, h.run S _ fun v M1 H1 n1 r1 => ⟨i, r1, k M1 H1 n1⟩⟩⟩
def wO (X : Cx) (e : Option Expr) : TO := fun σ H Q => ∃ te, PO X e te ∧ te σ H Q
theorem po_w {e : Option Expr} : PO X e (wO X e) := ⟨fun pins s σ H Q I ⟨_, p, h⟩ => p.run pins s σ H Q I h⟩
theorem el_slice {lo hi : Option Expr} {l h : Option Int} {p2 : Pos} (ha : E X G a (tLst s) xs) (hl : EO X G lo l) (hh : EO X G hi h) : EL X G (.Subscript a (.Slice lo hi none p2) pos) s (cut xs l h) := ⟨fun S Q k =>
  ⟨_, pe_slice sl_list pe_w po_w po_w, ha.run S _ fun v M1 H1 n1 r1 => hl.run (S.next n1) _ fun M2 H2 n2 => hh.run (S.next (n1.trans n2)) _ fun M3 H3 n3 => by
    obtain ⟨p, vs, e1, e2, e3⟩ := r1
    have vx := n2.vx.trans n3.vx
    have n := (n1.trans n2).trans n3
    exact ⟨p, vs, e1, SqL.of (n3.sub _ _ (vx _ _ e2)), fun r hr => k r M3 _ _ ⟨n.ex.trans (same_new hr), n.vx, n.sub.trans (same_new hr), n.fr⟩ (n.ex.free hr) (same_none n.sub hr) upd_same (cut_paired l h (paired_imp (fun _ _ q => s.ext vx q) e3))⟩⟩⟩
theorem cut_whole {xs : List α} {l h : Option Int} (h1 : HT.sIx xs.length 0 l = 0) (h2 : HT.sIx xs.length xs.length h = xs.length) : cut xs l h = xs := by
  unfold cut; rw [h1, h2]; simp
theorem e_sliceT {lo hi : Option Expr} {l h : Option Int} {p2 : Pos} (ha : E X G a (tTup s) xs) (hl : EO X G lo l) (hh : EO X G hi h) : E X G (.Subscript a (.Slice lo hi none p2) pos) (tTup s) (cut xs l h) := ⟨fun S Q k =>
  ⟨_, pe_slice sl_tupA pe_w po_w po_w, ha.run S _ fun v M1 H1 n1 r1 => hl.run (S.next n1) _ fun M2 H2 n2 => hh.run (S.next (n1.trans n2)) _ fun M3 H3 n3 => by
    obtain ⟨p, vs, e1, e2, e3⟩ := r1
    have vx := n2.vx.trans n3.vx
    have n := (n1.trans n2).trans n3
    have hlen := e3.length
    refine ⟨p, vs, e1, sqT_ext (vx.trans n3.sub) e2, fun ⟨w1, w2⟩ => ?_, fun _ r hr => ?_⟩
    · rw [hlen] at w1 w2
      refine k _ M3 H3 n ⟨p, vs, rfl, sqT_ext vx e2, ?_⟩
      rw [cut_whole w1 w2]
      exact paired_imp (fun _ _ q => s.ext vx q) e3
    · exact k _ _ _ (n.trans (Nx.new n3.sub hr)) ⟨r, _, rfl, .inl (.inl upd_same), cut_paired l h (paired_imp (fun _ _ q => s.ext (vx.trans (same_new (same_none n3.sub hr))) q) e3)⟩⟩⟩
/-- t + u of tuples -/
theorem e_catT (ha : E X G a (tTup s) xs) (hb : E X G b (tTup s) ys) (h0 : xs ≠ []) (hz : xs.length + ys.length ≤ 1000000) : E X G (.BinOp a .Add b pos) (tTup s) (xs ++ ys) := e_op2 op_catT ha hb fun M H v w Q m h1 h2 k => by
  obtain ⟨p, vs, e1, e2, e3⟩ := h1
  obtain ⟨q, ws, f1, f2, f3⟩ := h2
  have l1 := e3.length
  have l2 := f3.length
  refine ⟨p, q, vs, ws, e1, f1, sqT_ext m e2, sqT_ext m f2, fun z => h0 ?_, by rw [l1, l2]; exact Nat.le_trans hz (by decide), fun z => ?_, fun _ r hr => ?_⟩
  · rw [z] at l1
    exact List.eq_nil_of_length_eq_zero l1.symm
  · have : ys = [] := by rw [z] at l2; exact List.eq_nil_of_length_eq_zero l2.symm
    rw [this, List.append_nil] at k
    exact k _ M H (Nx.refl m) ⟨p, vs, rfl, e2, e3⟩
  · exact k _ _ _ (Nx.new m hr) ⟨r, _, rfl, .inl (.inl upd_same), paired_imp (fun _ _ q => s.ext (same_new (same_none m hr)) q) (paired_app e3 f3)⟩
theorem nx_lay {M H : Hp} (m : Same M H) {p : Addr} {o : HO} (hp : H p = none) : Nx M H M (upd H p o) := ⟨same_new hp, Same.refl _, m.trans (same_new hp), fun _ q _ => q⟩
/-- xs + ys, xs * n of lists -/
theorem el_cat (ha : E X G a (tLst s) xs) (hb : E X G b (tLst s) ys) (hz : xs.length + ys.length ≤ 1000000) : EL X G (.BinOp a .Add b pos) s (xs ++ ys) := el_op2 op_cat ha hb fun M H v w Q m h1 h2 k => by
  obtain ⟨p, vs, e1, e2, e3⟩ := h1
  obtain ⟨q, ws, f1, f2, f3⟩ := h2
  refine ⟨p, q, vs, ws, e1, f1, m _ _ e2, m _ _ f2, by rw [e3.length, f3.length]; exact Nat.le_trans hz (by decide), fun r hr => ?_⟩
  exact k r M _ _ (nx_lay m hr) hr (same_none m hr) upd_same (paired_app e3 f3)
theorem paired_rep {F : V → α → Prop} {vs : List V} {xs : List α} (p : Paired F vs xs) : ∀ n : Nat, Paired F (List.replicate n vs).flatten (List.replicate n xs).flatten
  | 0 => .nil
  | n + 1 => by
    rw [List.replicate_succ, List.replicate_succ, List.flatten_cons, List.flatten_cons]
    exact paired_app p (paired_rep p n)
theorem rep_len (n : Nat) (xs : List α) : (List.replicate n xs).flatten.length = n * xs.length := by
  induction n with
  | zero => simp
  | succ n ih => rw [List.replicate_succ, List.flatten_cons, List.length_append, ih, Nat.succ_mul]; omega
theorem el_rep (ha : E X G a (tLst s) xs) (hb : E X G b tI i) (h1 : -1000000 ≤ i ∧ i ≤ 1000000) (hz : xs.length * i.toNat ≤ 1000000) : EL X G (.BinOp a .Mult b pos) s (List.replicate i.toNat xs).flatten := el_op2 op_rep ha hb fun M H v w Q m q1 q2 k => by
  obtain ⟨p, vs, e1, e2, e3⟩ := q1
  refine ⟨p, i, vs, e1, q2, m _ _ e2, by omega, by omega, by rw [e3.length]; exact Nat.le_trans hz (by decide), fun r hr => ?_⟩
  exact k r M _ _ (nx_lay m hr) hr (same_none m hr) upd_same (paired_rep e3 _)

/-! ### built-ins -/
def wC1 (X : Cx) (id : String) : List V → Hp → VK → Prop := fun vs H Q => ∃ r, CallR X (.builtin id) r ∧ r vs H Q
theorem e_cb {n : Str} {id : String} {r : List V → Hp → VK → Prop} {ss : List Sl} (hc : CallR X (.builtin id) r) (ha : EA X G (e :: es) ss) (hm : X.mg n = none)
    (hr : ∀ (M H : Hp) (vs : List V) (Q : VK), Same M H → Reps X.K M vs ss → (∀ v M' H', Nx M H M' H' → u.rep X.K M' v z → Q v H') → r vs H Q)
    (hv : bootBuiltins n = some (.builtin id) := by decide +kernel) (hg : Gl X n := by rfl) (hn : n ≠ "__name__" := by decide) (hdb : (n == ("__debug__" : Str)) = false := by decide)
    (he : starEach (e :: es) X.env = (false, eval e X.env) :: starEach es X.env := by rfl) (hpl : (backTo pos (starEach es X.env)).any (·.1) = false := by rfl) {p : Pos} : E X G (.Call (.Name n p) (e :: es) [] pos) u z := ⟨fun S Q k =>
  ⟨_, pe_callB hc hg hm hv pa_w hn hdb he hpl, ha.run S _ fun vs M1 H1 n1 r1 => hr M1 H1 vs Q n1.sub r1 fun v M2 H2 n2 r2 => k v M2 H2 (n1.trans n2) r2⟩⟩
theorem e_ct {n : Str} {T : String} {r : List V → Hp → VK → Prop} {ss : List Sl} (hc : CallR X (.type T) r) (ha : EA X G (e :: es) ss) (hm : X.mg n = none)
    (hr : ∀ (M H : Hp) (vs : List V) (Q : VK), Same M H → Reps X.K M vs ss → (∀ v M' H', Nx M H M' H' → u.rep X.K M' v z → Q v H') → r vs H Q)
    (hv : bootBuiltins n = some (.type T) := by decide +kernel) (hg : Gl X n := by rfl) (hn : n ≠ "__name__" := by decide) (hdb : (n == ("__debug__" : Str)) = false := by decide)
    (he : starEach (e :: es) X.env = (false, eval e X.env) :: starEach es X.env := by rfl) (hpl : (backTo pos (starEach es X.env)).any (·.1) = false := by rfl) {p : Pos} : E X G (.Call (.Name n p) (e :: es) [] pos) u z := ⟨fun S Q k =>
  ⟨_, pe_callTy hc hg hm hv pa_w hn hdb he hpl, ha.run S _ fun vs M1 H1 n1 r1 => hr M1 H1 vs Q n1.sub r1 fun v M2 H2 n2 r2 => k v M2 H2 (n1.trans n2) r2⟩⟩
theorem el_ct {n : Str} {T : String} {r : List V → Hp → VK → Prop} {ss : List Sl} {zs : List γ} (hc : CallR X (.type T) r) (ha : EA X G (e :: es) ss) (hm : X.mg n = none)
    (hr : ∀ (M H : Hp) (vs : List V) (Q : VK), Same M H → Reps X.K M vs ss → (∀ p M' H' ws, Nx M H M' H' → H p = none → M' p = none → H' p = some (.lst ws) → Paired (u.rep X.K M') ws zs → Q (.ref p) H') → r vs H Q)
    (hv : bootBuiltins n = some (.type T) := by decide +kernel) (hg : Gl X n := by rfl) (hn : n ≠ "__name__" := by decide) (hdb : (n == ("__debug__" : Str)) = false := by decide)
    (he : starEach (e :: es) X.env = (false, eval e X.env) :: starEach es X.env := by rfl) (hpl : (backTo pos (starEach es X.env)).any (·.1) = false := by rfl) {p : Pos} : EL X G (.Call (.Name n p) (e :: es) [] pos) u zs := ⟨fun S Q k =>
  ⟨_, pe_callTy hc hg hm hv pa_w hn hdb he hpl, ha.run S _ fun vs M1 H1 n1 r1 => hr M1 H1 vs Q n1.sub r1 fun p M2 H2 ws n2 hp mp hh r2 => k p M2 H2 ws (n1.trans n2) (n1.ex.free hp) mp hh r2⟩⟩
theorem el_cb {n : Str} {id : String} {r : List V → Hp → VK → Prop} {ss : List Sl} {zs : List γ} (hc : CallR X (.builtin id) r) (ha : EA X G (e :: es) ss) (hm : X.mg n = none)
    (hr : ∀ (M H : Hp) (vs : List V) (Q : VK), Same M H → Reps X.K M vs ss → (∀ p M' H' ws, Nx M H M' H' → H p = none → M' p = none → H' p = some (.lst ws) → Paired (u.rep X.K M') ws zs → Q (.ref p) H') → r vs H Q)
    (hv : bootBuiltins n = some (.builtin id) := by decide +kernel) (hg : Gl X n := by rfl) (hn : n ≠ "__name__" := by decide) (hdb : (n == ("__debug__" : Str)) = false := by decide)
    (he : starEach (e :: es) X.env = (false, eval e X.env) :: starEach es X.env := by rfl) (hpl : (backTo pos (starEach es X.env)).any (·.1) = false := by rfl) {p : Pos} : EL X G (.Call (.Name n p) (e :: es) [] pos) u zs := ⟨fun S Q k =>
  ⟨_, pe_callB hc hg hm hv pa_w hn hdb he hpl, ha.run S _ fun vs M1 H1 n1 r1 => hr M1 H1 vs Q n1.sub r1 fun p M2 H2 ws n2 hp mp hh r2 => k p M2 H2 ws (n1.trans n2) (n1.ex.free hp) mp hh r2⟩⟩
end
theorem reps1 {K : Fg} {M : Hp} {α : Type} {t : Ty α} {x : α} {vs : List V} (h : Reps K M vs [.vl t x]) : ∃ v, vs = [v] ∧ t.rep K M v x := by
  cases h with
  | cons h r => cases r; exact ⟨_, rfl, h⟩
theorem reps2 {K : Fg} {M : Hp} {α β : Type} {t : Ty α} {x : α} {s : Ty β} {y : β} {vs : List V} (h : Reps K M vs [.vl t x, .vl s y]) : ∃ v w, vs = [v, w] ∧ t.rep K M v x ∧ s.rep K M w y := by
  cases h with
  | cons h r => cases r with | cons h' r' => cases r'; exact ⟨_, _, rfl, h, h'⟩
section
variable {α β γ : Type} {X : Cx} {G : List Sl} {a b c e : Expr} {es rest : List Expr} {s : Ty α} {t : Ty β} {u : Ty γ} {x : α} {y : β} {z : γ} {pos : Pos} {i j : Int} {xs ys : List α} {p q : Bool}
section
variable {h1 : starEach [a] X.env = (false, eval a X.env) :: starEach [] X.env}
theorem e_lenT {p : Pos} (hm : X.mg "len" = none) (ha : E X G a (tTup s) xs) (hg : Gl X "len" := by rfl) (he : starEach [a] X.env = (false, eval a X.env) :: starEach [] X.env := by rfl) : E X G (.Call (.Name "len" p) [a] [] pos) tI (xs.length : Int) :=
  e_cb call_len_seq (ea_cons ha ea_nil he) hm (fun M H vs Q m r k => by
    obtain ⟨v, rfl, p, ws, e1, e2, e3⟩ := reps1 r
    exact ⟨p, ws, by rw [e1], .inr (sqT_ext m e2), by rw [e3.length]; exact k _ M H (Nx.refl m) rfl⟩) PySem.boot_len hg (by decide) (by decide) he
theorem e_lenL {p : Pos} (hm : X.mg "len" = none) (ha : E X G a (tLst s) xs) (hg : Gl X "len" := by rfl) (he : starEach [a] X.env = (false, eval a X.env) :: starEach [] X.env := by rfl) : E X G (.Call (.Name "len" p) [a] [] pos) tI (xs.length : Int) :=
  e_cb call_len_seq (ea_cons ha ea_nil he) hm (fun M H vs Q m r k => by
    obtain ⟨v, rfl, p, ws, e1, e2, e3⟩ := reps1 r
    exact ⟨p, ws, by rw [e1], .inl (SqL.of (m _ _ e2)), by rw [e3.length]; exact k _ M H (Nx.refl m) rfl⟩) PySem.boot_len hg (by decide) (by decide) he
theorem e_lenS {p : Pos} (hm : X.mg "len" = none) (ha : E X G a (tSq s) xs) (hg : Gl X "len" := by rfl) (he : starEach [a] X.env = (false, eval a X.env) :: starEach [] X.env := by rfl) : E X G (.Call (.Name "len" p) [a] [] pos) tI (xs.length : Int) :=
  e_cb call_len_seq (ea_cons ha ea_nil he) hm (fun M H vs Q m r k => by
    obtain ⟨v, rfl, p, ws, e1, e2, e3⟩ := reps1 r
    exact ⟨p, ws, by rw [e1], .inl (sqL_ext m e2), by rw [e3.length]; exact k _ M H (Nx.refl m) rfl⟩) PySem.boot_len hg (by decide) (by decide) he
theorem e_intI {p : Pos} (hm : X.mg "int" = none) (ha : E X G a tI i) (hg : Gl X "int" := by rfl) (he : starEach [a] X.env = (false, eval a X.env) :: starEach [] X.env := by rfl) : E X G (.Call (.Name "int" p) [a] [] pos) tI i :=
  e_ct call_int1 (ea_cons ha ea_nil he) hm (fun M H vs Q m r k => by
    obtain ⟨v, rfl, e1⟩ := reps1 r
    exact .inl ⟨i, by rw [show v = V.int i from e1], k _ M H (Nx.refl m) rfl⟩) (by decide +kernel) hg (by decide) (by decide) he
theorem e_intB {p : Pos} {d : Bool} (hm : X.mg "int" = none) (ha : E X G a tB d) (hg : Gl X "int" := by rfl) (he : starEach [a] X.env = (false, eval a X.env) :: starEach [] X.env := by rfl) : E X G (.Call (.Name "int" p) [a] [] pos) tI (if d then 1 else 0) :=
  e_ct call_int1 (ea_cons ha ea_nil he) hm (fun M H vs Q m r k => by
    obtain ⟨v, rfl, e1⟩ := reps1 r
    exact .inr ⟨d, by rw [show v = V.bl d from e1], k _ M H (Nx.refl m) rfl⟩) (by decide +kernel) hg (by decide) (by decide) he
theorem e_strI {p : Pos} (hm : X.mg "str" = none) (ha : E X G a tI i) (hi : i.natAbs.log2 < 1920) (hg : Gl X "str" := by rfl) (he : starEach [a] X.env = (false, eval a X.env) :: starEach [] X.env := by rfl) : E X G (.Call (.Name "str" p) [a] [] pos) tS (toString i) :=
  e_ct call_str_int (ea_cons ha ea_nil he) hm (fun M H vs Q m r k => by
    obtain ⟨v, rfl, e1⟩ := reps1 r
    exact ⟨i, by rw [show v = V.int i from e1], hi, k _ M H (Nx.refl m) rfl⟩) (by decide +kernel) hg (by decide) (by decide) he
/-- max, min of two -/
theorem e_max {p : Pos} (hcm : X.calm = true) (hm : X.mg "max" = none) (ha : E X G a tI i) (hb : E X G b tI j) (hg : Gl X "max" := by rfl) (he : starEach [a, b] X.env = (false, eval a X.env) :: starEach [b] X.env := by rfl) (he2 : starEach [b] X.env = (false, eval b X.env) :: starEach [] X.env := by rfl)
    (hpl : (backTo pos (starEach [b] X.env)).any (·.1) = false := by rfl) : E X G (.Call (.Name "max" p) [a, b] [] pos) tI (if j > i then j else i) :=
  e_cb (call_max2 hcm) (ea_cons ha (ea_cons hb ea_nil he2) he) hm (fun M H vs Q m r k => by
    obtain ⟨v, w, rfl, e1, e2⟩ := reps2 r
    exact ⟨i, j, by rw [show v = V.int i from e1, show w = V.int j from e2], k _ M H (Nx.refl m) rfl⟩) (by decide +kernel) hg (by decide) (by decide) he hpl
theorem e_min {p : Pos} (hcm : X.calm = true) (hm : X.mg "min" = none) (ha : E X G a tI i) (hb : E X G b tI j) (hg : Gl X "min" := by rfl) (he : starEach [a, b] X.env = (false, eval a X.env) :: starEach [b] X.env := by rfl) (he2 : starEach [b] X.env = (false, eval b X.env) :: starEach [] X.env := by rfl)
    (hpl : (backTo pos (starEach [b] X.env)).any (·.1) = false := by rfl) : E X G (.Call (.Name "min" p) [a, b] [] pos) tI (if j < i then j else i) :=
  e_cb (call_min2 hcm) (ea_cons ha (ea_cons hb ea_nil he2) he) hm (fun M H vs Q m r k => by
    obtain ⟨v, w, rfl, e1, e2⟩ := reps2 r
    exact ⟨i, j, by rw [show v = V.int i from e1, show w = V.int j from e2], k _ M H (Nx.refl m) rfl⟩) (by decide +kernel) hg (by decide) (by decide) he hpl
/-- list(..), tuple(..) -/
theorem el_listL {p : Pos} (hm : X.mg "list" = none) (ha : E X G a (tLst s) xs) (hg : Gl X "list" := by rfl) (he : starEach [a] X.env = (false, eval a X.env) :: starEach [] X.env := by rfl) : EL X G (.Call (.Name "list" p) [a] [] pos) s xs :=
  el_ct call_list_of (ea_cons ha ea_nil he) hm (fun M H vs Q m r k => by
    obtain ⟨v, rfl, p, ws, e1, e2, e3⟩ := reps1 r
    exact ⟨p, ws, by rw [e1], .inl (SqL.of (m _ _ e2)), fun l hl => k l M _ ws (nx_lay m hl) hl (same_none m hl) upd_same e3⟩) (by decide +kernel) hg (by decide) (by decide) he
theorem el_listT {p : Pos} (hm : X.mg "list" = none) (ha : E X G a (tTup s) xs) (hg : Gl X "list" := by rfl) (he : starEach [a] X.env = (false, eval a X.env) :: starEach [] X.env := by rfl) : EL X G (.Call (.Name "list" p) [a] [] pos) s xs :=
  el_ct call_list_of (ea_cons ha ea_nil he) hm (fun M H vs Q m r k => by
    obtain ⟨v, rfl, p, ws, e1, e2, e3⟩ := reps1 r
    exact ⟨p, ws, by rw [e1], .inr (sqT_ext m e2), fun l hl => k l M _ ws (nx_lay m hl) hl (same_none m hl) upd_same e3⟩) (by decide +kernel) hg (by decide) (by decide) he
theorem e_tupL {p : Pos} (hm : X.mg "tuple" = none) (ha : E X G a (tLst s) xs) (hg : Gl X "tuple" := by rfl) (he : starEach [a] X.env = (false, eval a X.env) :: starEach [] X.env := by rfl) : E X G (.Call (.Name "tuple" p) [a] [] pos) (tTup s) xs :=
  e_ct call_tuple_of (ea_cons ha ea_nil he) hm (fun M H vs Q m r k => by
    obtain ⟨v, rfl, p, ws, e1, e2, e3⟩ := reps1 r
    exact ⟨p, ws, by rw [e1], .inl ⟨SqL.of (m _ _ e2), fun l hl => k _ _ _ (Nx.new m hl) ⟨l, ws, rfl, .inl (.inl upd_same), paired_imp (fun _ _ q => s.ext (same_new (same_none m hl)) q) e3⟩⟩⟩) (by decide +kernel) hg (by decide) (by decide) he
theorem e_tupT {p : Pos} (hm : X.mg "tuple" = none) (ha : E X G a (tTup s) xs) (hg : Gl X "tuple" := by rfl) (he : starEach [a] X.env = (false, eval a X.env) :: starEach [] X.env := by rfl) : E X G (.Call (.Name "tuple" p) [a] [] pos) (tTup s) xs :=
  e_ct call_tuple_of (ea_cons ha ea_nil he) hm (fun M H vs Q m r k => by
    obtain ⟨v, rfl, p, ws, e1, e2, e3⟩ := reps1 r
    exact ⟨p, ws, by rw [e1], .inr ⟨sqT_ext m e2, k _ M H (Nx.refl m) ⟨p, ws, rfl, e2, e3⟩⟩⟩) (by decide +kernel) hg (by decide) (by decide) he
/-- sum of a list of ints -/
theorem paired_int {M : Hp} {K : Fg} : ∀ {vs : List V} {ns : List Int}, Paired (tI.rep K M) vs ns → vs = ns.map V.int
  | _, _, .nil => rfl
  | _, _, .cons h t => by rw [List.map_cons, paired_int t]; rw [show _ = V.int _ from h]
theorem e_sum {p : Pos} {ns : List Int} (hcm : X.calm = true) (hm : X.mg "sum" = none) (ha : E X G a (tLst tI) ns) (hg : Gl X "sum" := by rfl) (he : starEach [a] X.env = (false, eval a X.env) :: starEach [] X.env := by rfl) : E X G (.Call (.Name "sum" p) [a] [] pos) tI ns.sum :=
  e_cb (cr_sum hcm) (ea_cons ha ea_nil he) hm (fun M H vs Q m r k => by
    obtain ⟨v, rfl, p, ws, e1, e2, e3⟩ := reps1 r
    have e4 := paired_int e3
    subst e4
    exact ⟨p, ns, by rw [e1], SqL.of (m _ _ e2), k _ M H (Nx.refl m) rfl⟩) (by decide +kernel) hg (by decide) (by decide) he
/-- isinstance(x, c) -/
theorem e_isi {p : Pos} {cv : V} {d : Bool} (hm : X.mg "isinstance" = none) (ha : E X G a s x) (hb : E X G b tC cv) (ht : ∀ M v, s.rep X.K M v x → ∃ ty w, ClsV cv w ∧ (∀ H, Same M H → TyX X.K H v ty) ∧ PySem.W.kitOne X.K ty w = some d) (hg : Gl X "isinstance" := by rfl)
    (he : starEach [a, b] X.env = (false, eval a X.env) :: starEach [b] X.env := by rfl) (he2 : starEach [b] X.env = (false, eval b X.env) :: starEach [] X.env := by rfl) (hpl : (backTo pos (starEach [b] X.env)).any (·.1) = false := by rfl) : E X G (.Call (.Name "isinstance" p) [a, b] [] pos) tB d :=
  e_cb call_isi (ea_cons ha (ea_cons hb ea_nil he2) he) hm (fun M H vs Q m r k => by
    obtain ⟨v, w, rfl, e1, e2⟩ := reps2 r
    obtain ⟨ty, w', h1, h2, h3⟩ := ht M v e1
    have e2' : w = cv := e2
    subst e2'
    exact ⟨v, w, ty, w', d, rfl, h1, h2 H m, h3, k _ M H (Nx.refl m) rfl⟩) (by decide +kernel) hg (by decide) (by decide) he hpl
end
end
end TL

namespace TL
open PySem L2

/-! ### statements -/
structure Out where
  nx : List Sl → Prop
  rt : Hp → V → Prop
  bk : List Sl → Prop := fun _ => False
  ct : List Sl → Prop := fun _ => False
  xc : Value → Option Addr → Hp → Prop := fun _ _ _ => False
structure Fin (K : Fg) (R : Out) (M0 H0 : Hp) (D : Ends) (E : XK) : Prop where
  nx : ∀ {M H σ G}, St K M0 H0 M H σ G → R.nx G → D.nx σ H
  rt : ∀ {M H v}, Nx M0 H0 M H → R.rt M v → D.rt v H
  bk : ∀ {M H σ G}, St K M0 H0 M H σ G → R.bk G → D.bk σ H
  ct : ∀ {M H σ G}, St K M0 H0 M H σ G → R.ct G → D.ct σ H
  xc : ∀ {M H c d}, Nx M0 H0 M H → R.xc c d M → E c d H
structure S1 (X : Cx) (G : List Sl) (st : Stmt) (R : Out) : Prop where
  run : ∀ {M0 H0 M H : Hp} {σ : L2.St} (D : Ends) (E : XK), St X.K M0 H0 M H σ G → Takes X (fun c d _ H => E c d H) → Fin X.K R M0 H0 D E → w1 X st D σ H
structure B (X : Cx) (G : List Sl) (sts : List Stmt) (R : Out) : Prop where
  run : ∀ {M0 H0 M H : Hp} {σ : L2.St} (D : Ends) (E : XK), St X.K M0 H0 M H σ G → Takes X (fun c d _ H => E c d H) → Fin X.K R M0 H0 D E → wS X sts D σ H
section
variable {α β γ : Type} {X : Cx} {G : List Sl} {a b c e : Expr} {es : List Expr} {st : Stmt} {rest th el body : List Stmt} {s : Ty α} {t : Ty β} {u : Ty γ} {x : α} {y : β} {z : γ} {pos : Pos} {i j : Int} {xs ys : List α} {p q : Bool} {R : Out}

theorem b_nil (h : R.nx G) : B X G [] R := ⟨fun {M0 H0 M H σ} D E S _ f => ⟨_, pss_nil, f.nx S h⟩⟩
theorem b_cons (h : S1 X G st { R with nx := fun G' => B X G' rest R }) : B X G (st :: rest) R := ⟨fun {M0 H0 M H σ} D E S tk f =>
  ⟨_, pss_cons ps_w pss_w, h.run { D with nx := wS X rest D } E S tk ⟨fun S' hb => hb.run D E S' tk f, f.rt, f.bk, f.ct, f.xc⟩⟩⟩
/-- .. where what follows is shown once -/
theorem b_cut (N : List Sl → Prop) (h : S1 X G st { R with nx := N }) (k : ∀ G', N G' → B X G' rest R) : B X G (st :: rest) R :=
  b_cons ⟨fun D E S tk f => h.run D E S tk ⟨fun S' hn => f.nx S' (k _ hn), f.rt, f.bk, f.ct, f.xc⟩⟩
theorem B.weak {G' : List Sl} (h : B X G' rest R) (w : Sub G G') : B X G rest R := ⟨fun D E S tk f => h.run D E (S.weak w) tk f⟩
theorem b_never {sts : List Stmt} (h : False) : B X G sts R := h.elim
theorem b_freeze (k : Nat) {s : Ty α} {xs : List α} (h : G[k]? = some (.ow s xs)) (hb : B X (G.set k (.vl (tLst s) xs)) rest R) : B X G rest R := ⟨fun D E S tk f => by
  obtain ⟨a, vs, _, _, _, S'⟩ := S.freeze h
  exact hb.run D E S' tk f⟩
theorem s_pass (h : R.nx G) : S1 X G (.Pass pos) R := ⟨fun D E S tk f => ⟨_, ps_pass, f.nx S h⟩⟩
theorem s_break (h : R.bk G) : S1 X G (.Break pos) R := ⟨fun D E S tk f => ⟨_, ps_break, f.bk S h⟩⟩
theorem s_cont (h : R.ct G) : S1 X G (.Continue pos) R := ⟨fun D E S tk f => ⟨_, ps_continue, f.ct S h⟩⟩
theorem s_doc {x : Str} {j : Nat} {pos' : Pos} (h : R.nx G) : S1 X G (.Expr (.Constant (.str x) j pos) pos') R := ⟨fun D E S tk f => ⟨_, ps_doc, f.nx S h⟩⟩
theorem s_drop (he : E X G e s x) (h : R.nx G) (hs : swapsWith e none pos.line X.env = pure false := by rfl) : S1 X G (.Expr e pos) R := ⟨fun D E S tk f =>
  ⟨_, ps_expr pe_w hs, he.run S _ fun v M1 H1 n1 r1 => f.nx (S.next n1) h⟩⟩
theorem s_ret (he : E X G e s x) (h : ∀ M v, s.rep X.K M v x → R.rt M v) : S1 X G (.Return (some e) pos) R := ⟨fun D E S tk f =>
  ⟨_, ps_ret pe_w, he.run S _ fun v M1 H1 n1 r1 => f.rt (S.nx.trans n1) (h M1 v r1)⟩⟩
theorem s_retN (h : ∀ M, R.rt M .non) : S1 X G (.Return none pos) R := ⟨fun {M0 H0 M H σ} D E S tk f => ⟨_, ps_retN, f.rt S.nx (h M)⟩⟩
theorem s_set (k : Nat) {n : Str} {pos' : Pos} (he : E X G e s x) (h : R.nx (G.set k (.vl s x))) (hN : X.N.Nodup) (hi : X.N[k]? = some n := by rfl) (hx : Loc X.env.scope n := by first | exact Or.inl rfl | exact Or.inr rfl)
    (hs : swapsWith e (some (.Name n pos')) pos.line X.env = pure false := by rfl) (hf : X.fn n = true ∨ X.env.scope.names.lookup n = some .local := by first | exact .inl rfl | exact .inr rfl) : S1 X G (.Assign [.Name n pos'] e pos) R := ⟨fun D E S tk f =>
  ⟨_, ps_set hN hi hx pe_w hs hf, he.run S _ fun v M1 H1 n1 r1 => f.nx ((S.next n1).set (s := .vl s x) r1) h⟩⟩
/-- a new list of the frame's own -/
theorem s_own (k : Nat) {n : Str} {pos' : Pos} (he : EL X G e s xs) (h : R.nx (G.set k (.ow s xs))) (hN : X.N.Nodup) (hi : X.N[k]? = some n := by rfl) (hx : Loc X.env.scope n := by first | exact Or.inl rfl | exact Or.inr rfl)
    (hs : swapsWith e (some (.Name n pos')) pos.line X.env = pure false := by rfl) (hf : X.fn n = true ∨ X.env.scope.names.lookup n = some .local := by first | exact .inl rfl | exact .inr rfl) : S1 X G (.Assign [.Name n pos'] e pos) R := ⟨fun D E S tk f =>
  ⟨_, ps_set hN hi hx pe_w hs hf, he.run S _ fun p M1 H1 vs n1 hp mp hh r1 => f.nx (S.setOwn n1 hp mp hh r1) h⟩⟩
theorem s_if (hc : T X G c p) (h1 : p = true → B X G th R) (h2 : p = false → B X G el R) : S1 X G (.If c th el pos) R := ⟨fun D E S tk f =>
  ⟨_, ps_if pt_w pss_w pss_w, hc.run S _ fun M1 H1 n1 => by
    cases p with
    | true => rw [if_pos rfl]; exact (h1 rfl).run D E (S.next n1) tk f
    | false => rw [if_neg (by decide)]; exact (h2 rfl).run D E (S.next n1) tk f⟩⟩
theorem s_aug (k : Nat) {n : Str} {pos' : Pos} (hx0 : G[k]? = some (.vl tI i)) (he : E X G e tI j) (h : R.nx (G.set k (.vl tI (i + j)))) (hN : X.N.Nodup) (hi : X.N[k]? = some n := by rfl) (hx : Loc X.env.scope n := by first | exact Or.inl rfl | exact Or.inr rfl)
    (hf : X.fn n = true ∨ X.env.scope.names.lookup n = some .local := by first | exact .inl rfl | exact .inr rfl) : S1 X G (.AugAssign (.Name n pos') .Add e pos) R := ⟨fun D E S tk f => by
  obtain ⟨v, e1, r⟩ := S.get hx0
  exact ⟨_, ps_aug hN hi hx pe_w ip_add hf, v, e1, he.run S _ fun w M1 H1 n1 r1 => ⟨i, j, r, r1, f.nx ((S.next n1).set (s := .vl tI (i + j)) rfl) h⟩⟩⟩
theorem s_augS (k : Nat) {n : Str} {pos' : Pos} (hx0 : G[k]? = some (.vl tI i)) (he : E X G e tI j) (h : R.nx (G.set k (.vl tI (i - j)))) (hN : X.N.Nodup) (hi : X.N[k]? = some n := by rfl) (hx : Loc X.env.scope n := by first | exact Or.inl rfl | exact Or.inr rfl)
    (hf : X.fn n = true ∨ X.env.scope.names.lookup n = some .local := by first | exact .inl rfl | exact .inr rfl) : S1 X G (.AugAssign (.Name n pos') .Sub e pos) R := ⟨fun D E S tk f => by
  obtain ⟨v, e1, r⟩ := S.get hx0
  exact ⟨_, ps_aug hN hi hx pe_w ip_sub hf, v, e1, he.run S _ fun w M1 H1 n1 r1 => ⟨i, j, r, r1, f.nx ((S.next n1).set (s := .vl tI (i - j)) rfl) h⟩⟩⟩
/-- xs.append(e) -/
theorem s_app (k : Nat) {n : Str} {p1 apos cpos : Pos} (h0 : G[k]? = some (.ow s xs)) (he : E X G e s x) (hz : xs.length < 1000000) (h : R.nx (G.set k (.ow s (xs ++ [x])))) (hi : X.N[k]? = some n := by rfl)
    (hv : Vis X.env.scope n := by first | exact Or.inl rfl | exact Or.inr (Or.inl rfl) | exact Or.inr (Or.inr rfl))
    (hd : (n == ("__debug__" : Str)) = false := by decide) (hcd : (n == ("__classdict__" : Str)) = false := by decide)
    (hst : starEach [e] X.env = (false, eval e X.env) :: starEach [] X.env := by rfl)
    (hbase : attributeBase (.Name n p1) "append" X.env (eval (.Name n p1) X.env) = eval (.Name n p1) X.env := by rfl)
    (hfew : ((backTo cpos (starEach [e] X.env)).all (fun x => !x.1) && (backToKw cpos (keywordEach [] X.env)).all (fun x => x.1.isSome)
      && decide ([e].length + ([] : List Keyword).length + (if ([] : List Keyword).isEmpty then 0 else 1) < 30)) = true := by rfl)
    (hline : (apos.endLine == cpos.line) = true := by rfl) (hplain : (backTo cpos (starEach [] X.env)).any (·.1) = false := by rfl)
    (hs : swapsWith (.Call (.Attribute (.Name n p1) "append" apos) [e] [] cpos) none pos.line X.env = pure false := by rfl) :
    S1 X G (.Expr (.Call (.Attribute (.Name n p1) "append" apos) [e] [] cpos) pos) R := ⟨fun D E S tk f => by
  obtain ⟨a0, vs0, e0, hh0, _, _, _⟩ := S.putOwn (ys := xs) h0
  refine ⟨_, ps_expr (pe_bm PySem.F.plainAttrs_list PySem.F.slot_list_append PySem.F.type_list_append mt_append (pe_var hi hv hd hcd) (pa_cons pe_w pa_nil hst) hbase hfew hline hst hplain) hs, ?_⟩
  refine ⟨.ref a0, e0, .inl ⟨rfl, vs0, SqL.of hh0⟩, he.run S _ fun v M1 H1 n1 r1 => ?_⟩
  have S1 := S.next n1
  obtain ⟨a, vs, e1, hh, mp, pr, upd'⟩ := S1.putOwn (ys := xs ++ [x]) h0
  rw [e0] at e1
  cases e1
  refine ⟨a0, vs, v, rfl, rfl, hh, by rw [pr.length]; exact Nat.lt_of_lt_of_le hz (by decide), f.nx (upd' _ (paired_app pr (.cons r1 .nil))) h⟩⟩
/-- xs[i] = e, xs of the frame's own -/
theorem s_seti (k : Nat) {n : Str} {p1 : Pos} {ib : Expr} {m : Nat} (h0 : G[k]? = some (.ow s xs)) (he : E X G e s x) (hib : E X G ib tI i) (hm : ixN xs.length i = some m) (h : R.nx (G.set k (.ow s (xs.set m x)))) (hi : X.N[k]? = some n := by rfl)
    (hv : Vis X.env.scope n := by first | exact Or.inl rfl | exact Or.inr (Or.inl rfl) | exact Or.inr (Or.inr rfl))
    (hd : (n == ("__debug__" : Str)) = false := by decide) (hcd : (n == ("__classdict__" : Str)) = false := by decide) {p2 : Pos}
    (ha : ∀ v, assign (.Subscript (.Name n p1) ib p2) X.env v = (do
      let ov ← holding [v] (eval (.Name n p1) X.env)
      let iv ← holding [v, ov] (eval ib X.env)
      standAt p2
      holding [v, ov, iv] (setItem ov iv v)
      release [v, ov, iv] []) := by intro _; rfl)
    (hs : swapsWithSole [.Subscript (.Name n p1) ib p2] e pos.line X.env = pure false := by rfl) (hw : swappedStores [.Subscript (.Name n p1) ib p2] e X.env = pure none := by rfl)
    (h1 : (assignEach [.Subscript (.Name n p1) ib p2] X.env).map (·.2) = [assign (.Subscript (.Name n p1) ib p2) X.env] := by rfl) :
    S1 X G (.Assign [.Subscript (.Name n p1) ib p2] e pos) R := ⟨fun D E S tk f => by
  refine ⟨_, ps_asg pe_w (pg_sub (pe_var hi hv hd hcd) pe_w set_list ha) hs hw h1, ?_⟩
  refine he.run S _ fun v M1 H1 n1 r1 => ?_
  obtain ⟨a0, vs0, e0, hh0, _, _, _⟩ := (S.next n1).putOwn (ys := xs) h0
  refine ⟨.ref a0, e0, hib.run (S.next n1) _ fun w M2 H2 n2 r2 => ?_⟩
  obtain ⟨a, vs, e1, hh, mp, pr, upd'⟩ := (S.next (n1.trans n2)).putOwn (ys := xs.set m x) h0
  rw [e0] at e1
  cases e1
  exact ⟨a0, vs, i, m, rfl, r2, hh, by rw [pr.length]; exact hm, f.nx (upd' _ (paired_set (s.ext n2.vx r1) m pr)) h⟩⟩

theorem set_same {G : List Sl} {k : Nat} {u : Sl} (h : G[k]? = some u) : G.set k u = G := by
  apply List.ext_getElem?
  intro j
  by_cases hj : k = j
  · subst hj
    rw [List.getElem?_set_self (List.getElem?_eq_some_iff.mp h).1, h]
  · rw [List.getElem?_set_ne hj]
/-- if c: x = e -/
theorem s_ifSet (k : Nat) {n : Str} {pos' pos2 : Pos} {x y : α} (h0 : G[k]? = some (.vl s x)) (ht : T X G c p) (he : p = true → E X G e s y) (h : R.nx (G.set k (.vl s (if p = true then y else x)))) (hN : X.N.Nodup) (hi : X.N[k]? = some n := by rfl) (hx : Loc X.env.scope n := by first | exact Or.inl rfl | exact Or.inr rfl)
    (hs : swapsWith e (some (.Name n pos')) pos2.line X.env = pure false := by rfl) (hf : X.fn n = true ∨ X.env.scope.names.lookup n = some .local := by first | exact .inl rfl | exact .inr rfl) : S1 X G (.If c [.Assign [.Name n pos'] e pos2] [] pos) R := by
  refine s_if ht (fun hp => ?_) (fun hp => ?_)
  · rw [if_pos hp] at h
    exact b_cons (s_set k (he hp) (b_nil h) hN hi hx hs hf)
  · rw [if_neg (by rw [hp]; decide), set_same h0] at h
    exact b_nil h
/-! ### loops -/
theorem s_forT (k : Nat) {n : Str} {pn : Pos} (I : Nat → List Sl → Prop) (G0 : List Sl) (he : E X G a (tTup s) xs) (w0 : Sub G G0) (h0 : I 0 G0)
    (hs : ∀ m x G', xs[m]? = some x → I m G' → B X (G'.set k (.vl s x)) body ⟨I (m + 1), R.rt, R.nx, I (m + 1), R.xc⟩) (hd : ∀ G', I xs.length G' → R.nx G')
    (hN : X.N.Nodup) (hcm : X.calm = true) (hi : X.N[k]? = some n := by rfl) (hx : Loc X.env.scope n := by first | exact Or.inl rfl | exact Or.inr rfl) (hf : X.fn n = true ∨ X.env.scope.names.lookup n = some .local := by first | exact .inl rfl | exact .inr rfl)
    (hp : PassesOwn (model X.prog X.w) X.A X.env X.xe := by first | exact PassesOwn.never | assumption)
    (hfs : ∀ x, foldedSetIterable a X.env x = pure x := by intro _; rfl) : S1 X G (.For (.Name n pn) a body [] pos) R := ⟨fun {M0 H0 M H σ} D E S tk f =>
  ⟨_, ps_for hp hcm (pi_tup pe_w) (pg_name (pos := pn) hN hi hx hf) pss_w hfs, he.run S _ fun v M1 H1 n1 r1 => by
    obtain ⟨p, vs, e1, e2, e3⟩ := r1
    have n0 := S.nx.trans n1
    refine ⟨p, e1, ⟨vs, sqT_ext n1.sub e2⟩, for_tup (K := X.K) (a := p) (xs := vs) (fun m σ' H' => ∃ M' G', St X.K M1 H0 M' H' σ' G' ∧ I m G') ⟨M1, G0, ((S.next n1).weak w0).rebase, h0⟩ (fun m σ' H' _ ⟨M', G', S', _⟩ => sqT_ext (S'.nx.vx.trans S'.sub) e2) ?_ ?_⟩
    · rintro m w σ' H' hm ⟨M', G', S', hI⟩
      obtain ⟨x', g1, g2⟩ := paired_get' e3 hm
      exact (hs m x' G' g1 hI).run _ E (S'.set (s := .vl s x') (v := w) (s.ext S'.nx.vx g2)) tk ⟨fun S2 h2 => ⟨_, _, S2, h2⟩, fun n2 h2 => f.rt (n0.unbase n2) h2, fun S2 h2 => f.nx (S2.unbase n0) h2, fun S2 h2 => ⟨_, _, S2, h2⟩, fun n2 h2 => f.xc (n0.unbase n2) h2⟩
    · rintro σ' H' ⟨M', G', S', hI⟩
      rw [e3.length] at hI
      exact f.nx (S'.unbase n0) (hd G' hI)⟩⟩
theorem s_forL (k : Nat) {n : Str} {pn : Pos} (I : Nat → List Sl → Prop) (G0 : List Sl) (he : E X G a (tLst s) xs) (w0 : Sub G G0) (h0 : I 0 G0)
    (hs : ∀ m x G', xs[m]? = some x → I m G' → B X (G'.set k (.vl s x)) body ⟨I (m + 1), R.rt, R.nx, I (m + 1), R.xc⟩) (hd : ∀ G', I xs.length G' → R.nx G')
    (hN : X.N.Nodup) (hcm : X.calm = true) (hi : X.N[k]? = some n := by rfl) (hx : Loc X.env.scope n := by first | exact Or.inl rfl | exact Or.inr rfl) (hf : X.fn n = true ∨ X.env.scope.names.lookup n = some .local := by first | exact .inl rfl | exact .inr rfl)
    (hp : PassesOwn (model X.prog X.w) X.A X.env X.xe := by first | exact PassesOwn.never | assumption)
    (hfs : ∀ x, foldedSetIterable a X.env x = pure x := by intro _; rfl) : S1 X G (.For (.Name n pn) a body [] pos) R := ⟨fun {M0 H0 M H σ} D E S tk f =>
  ⟨_, ps_for hp hcm (pi_list pe_w) (pg_name (pos := pn) hN hi hx hf) pss_w hfs, he.run S _ fun v M1 H1 n1 r1 => by
    obtain ⟨p, vs, e1, e2, e3⟩ := r1
    have n0 := S.nx.trans n1
    refine ⟨p, e1, ⟨vs, SqL.of (n1.sub _ _ e2)⟩, for_list (K := X.K) (a := p) (xs := vs) (fun m σ' H' => ∃ M' G', St X.K M1 H0 M' H' σ' G' ∧ I m G') ⟨M1, G0, ((S.next n1).weak w0).rebase, h0⟩ (fun m σ' H' _ ⟨M', G', S', _⟩ => SqL.of (S'.sub _ _ (S'.nx.vx _ _ e2))) ?_ ?_⟩
    · rintro m w σ' H' hm ⟨M', G', S', hI⟩
      obtain ⟨x', g1, g2⟩ := paired_get' e3 hm
      exact (hs m x' G' g1 hI).run _ E (S'.set (s := .vl s x') (v := w) (s.ext S'.nx.vx g2)) tk ⟨fun S2 h2 => ⟨_, _, S2, h2⟩, fun n2 h2 => f.rt (n0.unbase n2) h2, fun S2 h2 => f.nx (S2.unbase n0) h2, fun S2 h2 => ⟨_, _, S2, h2⟩, fun n2 h2 => f.xc (n0.unbase n2) h2⟩
    · rintro σ' H' ⟨M', G', S', hI⟩
      rw [e3.length] at hI
      exact f.nx (S'.unbase n0) (hd G' hI)⟩⟩
theorem s_forS (k : Nat) {n : Str} {pn : Pos} (I : Nat → List Sl → Prop) (G0 : List Sl) (he : E X G a (tSq s) xs) (w0 : Sub G G0) (h0 : I 0 G0)
    (hs : ∀ m x G', xs[m]? = some x → I m G' → B X (G'.set k (.vl s x)) body ⟨I (m + 1), R.rt, R.nx, I (m + 1), R.xc⟩) (hd : ∀ G', I xs.length G' → R.nx G')
    (hN : X.N.Nodup) (hcm : X.calm = true) (hi : X.N[k]? = some n := by rfl) (hx : Loc X.env.scope n := by first | exact Or.inl rfl | exact Or.inr rfl) (hf : X.fn n = true ∨ X.env.scope.names.lookup n = some .local := by first | exact .inl rfl | exact .inr rfl)
    (hp : PassesOwn (model X.prog X.w) X.A X.env X.xe := by first | exact PassesOwn.never | assumption)
    (hfs : ∀ x, foldedSetIterable a X.env x = pure x := by intro _; rfl) : S1 X G (.For (.Name n pn) a body [] pos) R := ⟨fun {M0 H0 M H σ} D E S tk f =>
  ⟨_, ps_for hp hcm (pi_list pe_w) (pg_name (pos := pn) hN hi hx hf) pss_w hfs, he.run S _ fun v M1 H1 n1 r1 => by
    obtain ⟨p, vs, e1, e2, e3⟩ := r1
    have n0 := S.nx.trans n1
    refine ⟨p, e1, ⟨vs, sqL_ext n1.sub e2⟩, for_list (K := X.K) (a := p) (xs := vs) (fun m σ' H' => ∃ M' G', St X.K M1 H0 M' H' σ' G' ∧ I m G') ⟨M1, G0, ((S.next n1).weak w0).rebase, h0⟩ (fun m σ' H' _ ⟨M', G', S', _⟩ => sqL_ext (S'.nx.vx.trans S'.sub) e2) ?_ ?_⟩
    · rintro m w σ' H' hm ⟨M', G', S', hI⟩
      obtain ⟨x', g1, g2⟩ := paired_get' e3 hm
      exact (hs m x' G' g1 hI).run _ E (S'.set (s := .vl s x') (v := w) (s.ext S'.nx.vx g2)) tk ⟨fun S2 h2 => ⟨_, _, S2, h2⟩, fun n2 h2 => f.rt (n0.unbase n2) h2, fun S2 h2 => f.nx (S2.unbase n0) h2, fun S2 h2 => ⟨_, _, S2, h2⟩, fun n2 h2 => f.xc (n0.unbase n2) h2⟩
    · rintro σ' H' ⟨M', G', S', hI⟩
      rw [e3.length] at hI
      exact f.nx (S'.unbase n0) (hd G' hI)⟩⟩
/-- for x in range(n) -/
theorem s_forR (k : Nat) {n : Str} {pn p1 p2 : Pos} (I : Nat → List Sl → Prop) (G0 : List Sl) (hm : X.mg "range" = none) (he : E X G a tI i) (hz : -4611686018427387904 ≤ i ∧ i < 4611686018427387904) (w0 : Sub G G0) (h0 : I 0 G0)
    (hs : ∀ (m : Nat) G', (m : Int) < i → I m G' → B X (G'.set k (.vl tI (m : Int))) body ⟨I (m + 1), R.rt, R.nx, I (m + 1), R.xc⟩) (hd : ∀ G', I i.toNat G' → R.nx G')
    (hN : X.N.Nodup) (hcm : X.calm = true) (hi : X.N[k]? = some n := by rfl) (hx : Loc X.env.scope n := by first | exact Or.inl rfl | exact Or.inr rfl) (hf : X.fn n = true ∨ X.env.scope.names.lookup n = some .local := by first | exact .inl rfl | exact .inr rfl)
    (hp : PassesOwn (model X.prog X.w) X.A X.env X.xe := by first | exact PassesOwn.never | assumption)
    (hg : Gl X "range" := by rfl) (hst : starEach [a] X.env = [(false, eval a X.env)] := by rfl)
    (hfs : ∀ x, foldedSetIterable (.Call (.Name "range" p1) [a] [] p2) X.env x = pure x := by intro _; rfl) : S1 X G (.For (.Name n pn) (.Call (.Name "range" p1) [a] [] p2) body [] pos) R := ⟨fun {M0 H0 M H σ} D E S tk f =>
  ⟨_, ps_for hp hcm (pi_range1 hg hm (pa_cons pe_w pa_nil hst) hst) (pg_name (pos := pn) hN hi hx hf) pss_w hfs, he.run S _ fun v M1 H1 n1 r1 => by
    have n0 := S.nx.trans n1
    refine ⟨i, by rw [show v = V.int i from r1], hz.1, hz.2, for_range (lo := 0) (n := i.toNat) (fun m σ' H' => ∃ M' G', St X.K M1 H0 M' H' σ' G' ∧ I m G') ⟨M1, G0, ((S.next n1).weak w0).rebase, h0⟩ ?_ ?_⟩
    · rintro m σ' H' hm' ⟨M', G', S', hI⟩
      have e0 : (0 : Int) + (m : Int) = (m : Int) := Int.zero_add _
      rw [e0]
      exact (hs m G' (by omega) hI).run _ E (S'.set (s := .vl tI (m : Int)) (v := .int m) rfl) tk ⟨fun S2 h2 => ⟨_, _, S2, h2⟩, fun n2 h2 => f.rt (n0.unbase n2) h2, fun S2 h2 => f.nx (S2.unbase n0) h2, fun S2 h2 => ⟨_, _, S2, h2⟩, fun n2 h2 => f.xc (n0.unbase n2) h2⟩
    · rintro σ' H' ⟨M', G', S', hI⟩
      exact f.nx (S'.unbase n0) (hd G' hI)⟩⟩
/-- for x in range(lo, n) -/
theorem s_forR2 (k : Nat) {n : Str} {pn p1 p2 : Pos} (I : Nat → List Sl → Prop) (G0 : List Sl) (hm : X.mg "range" = none) (he : E X G a tI i) (he2 : E X G b tI j) (hz : (-4611686018427387904 ≤ i ∧ i < 4611686018427387904) ∧ -4611686018427387904 ≤ j ∧ j < 4611686018427387904) (w0 : Sub G G0) (h0 : I 0 G0)
    (hs : ∀ (m : Nat) G', i + (m : Int) < j → I m G' → B X (G'.set k (.vl tI (i + m))) body ⟨I (m + 1), R.rt, R.nx, I (m + 1), R.xc⟩) (hd : ∀ G', I (j - i).toNat G' → R.nx G')
    (hN : X.N.Nodup) (hcm : X.calm = true) (hi : X.N[k]? = some n := by rfl) (hx : Loc X.env.scope n := by first | exact Or.inl rfl | exact Or.inr rfl) (hf : X.fn n = true ∨ X.env.scope.names.lookup n = some .local := by first | exact .inl rfl | exact .inr rfl)
    (hp : PassesOwn (model X.prog X.w) X.A X.env X.xe := by first | exact PassesOwn.never | assumption)
    (hg : Gl X "range" := by rfl) (hst : starEach [a, b] X.env = [(false, eval a X.env), (false, eval b X.env)] := by rfl) (hst2 : starEach [b] X.env = [(false, eval b X.env)] := by rfl)
    (hfs : ∀ x, foldedSetIterable (.Call (.Name "range" p1) [a, b] [] p2) X.env x = pure x := by intro _; rfl) : S1 X G (.For (.Name n pn) (.Call (.Name "range" p1) [a, b] [] p2) body [] pos) R := ⟨fun {M0 H0 M H σ} D E S tk f =>
  ⟨_, ps_for hp hcm (pi_range2 hg hm (pa_cons pe_w (pa_cons pe_w pa_nil hst2) (by rw [hst, hst2])) hst hst2) (pg_name (pos := pn) hN hi hx hf) pss_w hfs, he.run S _ fun v M1 H1 n1 r1 => he2.run (S.next n1) _ fun v' M2 H2 n2 r2 => by
    have n0 := S.nx.trans (n1.trans n2)
    refine ⟨i, j, by rw [show v = V.int i from r1, show v' = V.int j from r2], ⟨hz.1.1, hz.1.2, hz.2.1, hz.2.2⟩, for_range (lo := i) (n := (j - i).toNat) (fun m σ' H' => ∃ M' G', St X.K M2 H0 M' H' σ' G' ∧ I m G') ⟨M2, G0, ((S.next (n1.trans n2)).weak w0).rebase, h0⟩ ?_ ?_⟩
    · rintro m σ' H' hm' ⟨M', G', S', hI⟩
      exact (hs m G' (by omega) hI).run _ E (S'.set (s := .vl tI (i + m)) (v := .int (i + m)) rfl) tk ⟨fun S2 h2 => ⟨_, _, S2, h2⟩, fun n2 h2 => f.rt (n0.unbase n2) h2, fun S2 h2 => f.nx (S2.unbase n0) h2, fun S2 h2 => ⟨_, _, S2, h2⟩, fun n2 h2 => f.xc (n0.unbase n2) h2⟩
    · rintro σ' H' ⟨M', G', S', hI⟩
      exact f.nx (S'.unbase n0) (hd G' hI)⟩⟩
theorem s_while (I : Nat → List Sl → Prop) (G0 : List Sl) (m0 : Nat) (w0 : Sub G G0) (h0 : I m0 G0)
    (hs : ∀ (m : Nat) G', I m G' → ∃ d, T X G' c d ∧ (d = true → B X G' body ⟨fun G2 => ∃ m', m' < m ∧ I m' G2, R.rt, R.nx, fun G2 => ∃ m', m' < m ∧ I m' G2, R.xc⟩) ∧ (d = false → R.nx G'))
    (hp : PassesOwn (model X.prog X.w) X.A X.env X.xe := by first | exact PassesOwn.never | assumption) : S1 X G (.While c body [] pos) R := ⟨fun {M0 H0 M H σ} D E S tk f =>
  ⟨_, ps_while hp pt_w pss_w, fun m σ' H' => ∃ M' G', St X.K M0 H0 M' H' σ' G' ∧ I m G', ⟨m0, M, G0, S.weak w0, h0⟩, by
    rintro m σ' H' ⟨M', G', S', hI⟩
    obtain ⟨d, ht, h1, h2⟩ := hs m G' hI
    refine ht.run S' _ fun M1 H1 n1 => ?_
    cases d with
    | true =>
      rw [if_pos rfl]
      refine ⟨fun σ' H' => ∃ m', m' < m ∧ ∃ M' G', St X.K M0 H0 M' H' σ' G' ∧ I m' G', fun _ _ h => h, ?_⟩
      exact (h1 rfl).run _ E (S'.next n1) tk ⟨fun S2 ⟨m', l, h⟩ => ⟨m', l, _, _, S2, h⟩, f.rt, f.nx, fun S2 ⟨m', l, h⟩ => ⟨m', l, _, _, S2, h⟩, f.xc⟩
    | false =>
      rw [if_neg (by decide)]
      exact f.nx (S'.next n1) (h2 rfl)⟩⟩
end
end TL

namespace TL
open PySem PySem.Spec PyProof.Rows L2

/-! ### defs -/
/-- the promise of a def that raises nothing -/
def spG {ι ρ : Type} (K : Fg) (ar : ι → List Sl) (pre : ι → Prop) (t : Ty ρ) (out : ι → ρ) : Sp := fun vs H Q _ =>
  ∃ (i : ι) (M : Hp), Same M H ∧ Reps K M vs (ar i) ∧ pre i ∧ ∀ v M' H', Nx M H M' H' → t.rep K M' v (out i) → Q v H'
/-- the promise of a def that may raise -/
def spR {ι : Type} (K : Fg) (ar : ι → List Sl) (pre : ι → Prop) (rt : ι → Hp → V → Prop) (xc : ι → Value → Option Addr → Hp → Prop) : Sp := fun vs H Q E =>
  ∃ (i : ι) (M : Hp), Same M H ∧ Reps K M vs (ar i) ∧ pre i ∧ (∀ v M' H', Nx M H M' H' → rt i M' v → Q v H') ∧ ∀ c d M' H', Nx M H M' H' → xc i c d M' → E c d H'
def Ret {ρ : Type} (K : Fg) (t : Ty ρ) (y : ρ) : Out := { nx := fun _ => ∀ M, t.rep K M .non y, rt := fun M v => t.rep K M v y }
theorem reps_len {K : Fg} {M : Hp} : ∀ {vs : List V} {ss : List Sl}, Reps K M vs ss → vs.length = ss.length
  | _, _, .nil => rfl
  | _, _, .cons _ r => by simp [reps_len r]
theorem reps_get {K : Fg} {M : Hp} : ∀ {vs : List V} {ss : List Sl} {i : Nat} {s : Sl}, Reps K M vs ss → ss[i]? = some s → ∃ v, vs[i]? = some v ∧ RepS K M v s
  | _, _, _, _, .nil, e => by simp at e
  | _, _, 0, _, .cons h _, e => by simp at e; subst e; exact ⟨_, rfl, h⟩
  | _, _, i + 1, s, .cons _ r, e => by
    obtain ⟨u, h1, h2⟩ := reps_get (i := i) (s := s) r (by simpa using e)
    exact ⟨u, by simpa using h1, h2⟩
theorem reps_noown {K : Fg} {M : Hp} : ∀ {vs : List V} {ss : List Sl} {i : Nat} {s : Sl}, Reps K M vs ss → ss[i]? = some s → s.own = false
  | _, _, _, _, .nil, e => by simp at e
  | _, _, 0, _, .cons _ _, e => by simp at e; subst e; rfl
  | _, _, i + 1, s, .cons _ r, e => reps_noown (i := i) r (by simpa using e)
/-- the state at a def's entry -/
theorem st_start {K : Fg} {M H : Hp} {vs : List V} {ss : List Sl} {N : List Str} {n : Nat} (m : Same M H) (r : Reps K M vs ss) (hn : N.length = ss.length + n) : St K M H M H (L2.start N vs) (ss ++ List.replicate n .un) := by
  have hl := reps_len r
  refine ⟨Nx.refl m, ?_, fun _ => [], fun i s e => ?_, fun i j s t e1 e2 o1 o2 ne x hx => ?_⟩
  · unfold L2.start
    rw [List.length_append, List.length_append, List.length_map, List.length_replicate, List.length_replicate, hl]
    omega
  · unfold L2.start
    by_cases h : i < ss.length
    · rw [List.getElem?_append_left h] at e
      obtain ⟨v, q1, q2⟩ := reps_get r e
      refine ⟨some v, ?_, ?_⟩
      · rw [List.getElem?_append_left (by rw [List.length_map, hl]; exact h), List.getElem?_map, q1]; rfl
      · cases s with
        | un => trivial
        | vl t x => exact ⟨v, rfl, q2⟩
        | ow t xs => exact q2.elim
        | o2 t xs => exact q2.elim
        | ob p dx C fs => exact q2.elim
    · have h' : ss.length ≤ i := Nat.le_of_not_lt h
      rw [List.getElem?_append_right h'] at e
      have e2 := (List.getElem?_eq_some_iff.mp e)
      obtain ⟨l, e3⟩ := e2
      rw [List.getElem_replicate] at e3
      subst e3
      rw [List.length_replicate] at l
      refine ⟨none, ?_, trivial⟩
      rw [List.getElem?_append_right (by rw [List.length_map, hl]; exact h'), List.length_map, hl, List.getElem?_replicate, if_pos (by omega)]
  · have : s.own = false := by
      by_cases h : i < ss.length
      · rw [List.getElem?_append_left h] at e1; exact reps_noown r e1
      · rw [List.getElem?_append_right (Nat.le_of_not_lt h)] at e1
        obtain ⟨l, e3⟩ := List.getElem?_eq_some_iff.mp e1
        rw [List.getElem_replicate] at e3
        subst e3; rfl
    rw [this] at o1; cases o1
theorem takes_false {X : Cx} : Takes X (fun c d _ H => (fun _ _ _ => False : XK) c d H) := fun u s' ⟨_, _, _, _, _, _, _, _, _, _, _, _, _, _, _, _, w⟩ => w.elim
section
variable {P : Program} {w : World} {K : Fg} {mg : Str → Option Value} {base : Heap} {ι ρ : Type}
theorem fn_ok {x qual : Str} {st : Stmt} {f : Addr} {fd : FuncData} {N ps : List Str} {k : Nat} {ar : ι → List Sl} {pre : ι → Prop} {t : Ty ρ} {out : ι → ρ} (F : Fun K x qual st f fd) (S : FnScope N ps (defScope st)) (n : Nat)
    (hn : N.length = ps.length + n) (hl : ∀ i, (ar i).length = ps.length)
    (hb : ∀ (cdv : Value) (A : Around) (outer : List Env) (s : Shared) (H : Hp) (E : XK), Room k (A.deeper (envOfC qual (defScope st) s.heap.objs.size f cdv)) → ∀ i, pre i →
      B (cxOf CX0 P w K mg base N qual (defScope st) f cdv A outer s H E).nox (ar i ++ List.replicate n .un) (defBody st) (Ret K t (out i))) : FnOk P w K mg base CX0 (k + 1) f fd ps (spG K ar pre t out) := by
  refine F.ok S (fun vs H Q E h => ?_) (fun cdv A outer s H vs Q E hr h => ⟨_, pss_w, ?_⟩)
  · obtain ⟨i, M, _, r, _⟩ := h
    rw [reps_len r, hl]
  · obtain ⟨i, M, m, r, hp, q⟩ := h
    refine (hb cdv A outer s H E hr i hp).run _ (fun _ _ _ => False) (st_start m r (by rw [hl]; exact hn)) takes_false ⟨fun S' h => ?_, fun n2 h => q _ _ _ n2 h, fun _ h => h.elim, fun _ h => h.elim, fun _ h => h.elim⟩
    exact q _ _ _ S'.nx (h _)
/-- .. that may raise -/
theorem fn_okX {x qual : Str} {st : Stmt} {f : Addr} {fd : FuncData} {N ps : List Str} {k : Nat} {ar : ι → List Sl} {pre : ι → Prop} {rt : ι → Hp → V → Prop} {xc : ι → Value → Option Addr → Hp → Prop} (F : Fun K x qual st f fd) (S : FnScope N ps (defScope st)) (n : Nat)
    (hn : N.length = ps.length + n) (hl : ∀ i, (ar i).length = ps.length)
    (hb : ∀ (cdv : Value) (A : Around) (outer : List Env) (s : Shared) (H : Hp) (E : XK), Room k (A.deeper (envOfC qual (defScope st) s.heap.objs.size f cdv)) → ∀ i, pre i →
      B (cxOf (CX P w) P w K mg base N qual (defScope st) f cdv A outer s H E) (ar i ++ List.replicate n .un) (defBody st) { nx := fun _ => ∀ M, rt i M .non, rt := rt i, xc := xc i }) : FnOk P w K mg base (CX P w) (k + 1) f fd ps (spR K ar pre rt xc) := by
  refine F.okX S (fun vs H Q E h => ?_) (fun cdv A outer s H vs Q E hr h => ⟨_, pss_w, ?_⟩)
  · obtain ⟨i, M, _, r, _⟩ := h
    rw [reps_len r, hl]
  · obtain ⟨i, M, m, r, hp, q, qx⟩ := h
    refine (hb cdv A outer s H E hr i hp).run _ E (st_start m r (by rw [hl]; exact hn)) (takes_of rfl rfl rfl rfl) ⟨fun S' h => ?_, fun n2 h => q _ _ _ n2 h, fun _ h => h.elim, fun _ h => h.elim, fun n2 h => qx _ _ _ _ n2 h⟩
    exact q _ _ _ S'.nx (h _)
/-- a def as its callers know it -/
structure Fn (P : Program) (w : World) (K : Fg) (mg : Str → Option Value) (base : Heap) (CX : CXT) (k : Nat) (name : Str) (ps : List Str) (sp : Sp) : Prop where
  ex : ∃ f fd, mg name = some (.ref f) ∧ PySem.W.keepIn K (.ref f) = true ∧ Binds K fd ps [] ∧ FnOk P w K mg base CX k f fd ps sp
end
section
variable {α β γ ι ρ : Type} {X : Cx} {G : List Sl} {a b c e : Expr} {es rest : List Expr} {s : Ty α} {t : Ty β} {u : Ty γ} {x : α} {y : β} {z : γ} {pos : Pos} {k : Nat}
theorem e_call {P : Program} {w : World} {K : Fg} {mg : Str → Option Value} {base : Heap} {n : Str} {ps : List Str} {ar : ι → List Sl} {pre : ι → Prop} {tr : Ty ρ} {out : ι → ρ} {p : Pos} (C : Fn P w K mg base CX0 k n ps (spG K ar pre tr out)) (hr : Room k X.A) (i : ι) (ha : EA X G (e :: es) (ar i)) (hp : pre i)
    (hg : Gl X n := by rfl) (hdb : (n == ("__debug__" : Str)) = false := by decide) (he : starEach (e :: es) X.env = (false, eval e X.env) :: starEach es X.env := by rfl) (hpl : (backTo pos (starEach es X.env)).any (·.1) = false := by rfl)
    (xP : X.prog = P := by rfl) (xw : X.w = w := by rfl) (xK : X.K = K := by rfl) (xm : X.mg = mg := by rfl) (xb : X.base = base := by rfl) : E X G (.Call (.Name n p) (e :: es) [] pos) tr (out i) := ⟨fun S Q q => by
  subst xP xw xK xm xb
  obtain ⟨f, fd, hm, hk, hb, F⟩ := C.ex
  refine ⟨_, pe_call F hr hg hm hk hb .nil pass0 pa_w hdb he hpl, ha.run S _ fun vs M1 H1 n1 r1 => ?_⟩
  rw [List.append_nil]
  exact ⟨i, M1, n1.sub, r1, hp, fun v M2 H2 n2 r2 => q v M2 H2 (n1.trans n2) r2⟩⟩
theorem e_call0 {P : Program} {w : World} {K : Fg} {mg : Str → Option Value} {base : Heap} {n : Str} {ar : Unit → List Sl} {pre : Unit → Prop} {tr : Ty ρ} {out : Unit → ρ} {p : Pos} (C : Fn P w K mg base CX0 k n [] (spG K ar pre tr out)) (hr : Room k X.A) (h0 : ar () = []) (hp : pre ())
    (hg : Gl X n := by rfl) (hdb : (n == ("__debug__" : Str)) = false := by decide) (xP : X.prog = P := by rfl) (xw : X.w = w := by rfl) (xK : X.K = K := by rfl) (xm : X.mg = mg := by rfl) (xb : X.base = base := by rfl) : E X G (.Call (.Name n p) [] [] pos) tr (out ()) := ⟨fun {M0 H0 M H σ} S Q q => by
  subst xP xw xK xm xb
  obtain ⟨f, fd, hm, hk, hb, F⟩ := C.ex
  refine ⟨_, pe_call0 F hr hg hm hk hb .nil pass0 hdb, ?_⟩
  refine ⟨(), M, S.sub, by rw [h0]; exact .nil, hp, fun v M2 H2 n2 r2 => q v M2 H2 n2 r2⟩⟩

/-! ### what does not lean on lists -/
def TupS (K : Fg) (M M' : Hp) : Prop := ∀ a xs, SqT K M a xs → SqT K M' a xs
def Imm (K : Fg) (t : Ty α) : Prop := ∀ M M' v x, TupS K M M' → t.rep K M v x → t.rep K M' v x
theorem imm_I {K : Fg} : Imm K tI := fun _ _ _ _ _ h => h
theorem imm_B {K : Fg} : Imm K tB := fun _ _ _ _ _ h => h
theorem imm_S {K : Fg} : Imm K tS := fun _ _ _ _ _ h => h
theorem imm_N {K : Fg} : Imm K tN := fun _ _ _ _ _ h => h
theorem imm_T {K : Fg} {s : Ty α} (i : Imm K s) : Imm K (tTup s) := fun _ _ _ _ q ⟨a, vs, h1, h2, h3⟩ => ⟨a, vs, h1, q _ _ h2, paired_imp (fun _ _ z => i _ _ _ _ q z) h3⟩
theorem imm_O {K : Fg} {s : Ty α} (i : Imm K s) : Imm K (tO s) := fun _ _ _ x q h => by
  cases x with
  | none => exact h
  | some y => exact i _ _ _ _ q h
theorem imm_2 {K : Fg} {s : Ty α} {t : Ty β} (i : Imm K s) (j : Imm K t) : Imm K (tP2 s t) := fun _ _ _ _ q ⟨a, v1, v2, h1, h2, h3, h4⟩ => ⟨a, v1, v2, h1, q _ _ h2, i _ _ _ _ q h3, j _ _ _ _ q h4⟩
/-- an own list is read -/
theorem e_read (m : Nat) {s : Ty α} {xs : List α} (h : G[m]? = some (.ow s xs)) (hi : Imm X.K t) (he : E X (G.set m (.vl (tLst s) xs)) e t y) : E X G e t y := ⟨fun {M0 H0 M H σ} S Q q => by
  obtain ⟨a, vs, hh, ma, h0, S'⟩ := S.freeze h
  refine he.run S' _ fun v M' H' n r => ?_
  have am : M' a = some (.lst vs) := n.vx _ _ upd_same
  refine q v (fun b => if b = a then none else M' b) H' ⟨n.ex, fun b o e => ?_, fun b o e => ?_, fun b n1 n2 => ?_⟩ (hi _ _ _ _ (fun b xs e => ?_) r)
  · have hb : b ≠ a := ne_of_none e ma
    show (if b = a then none else M' b) = some o
    rw [if_neg hb]
    exact n.vx _ _ (by rw [upd_ne hb]; exact e)
  · have e' : (if b = a then none else M' b) = some o := e
    by_cases hb : b = a
    · rw [if_pos hb] at e'; cases e'
    · rw [if_neg hb] at e'; exact n.sub _ _ e'
  · show (if b = a then none else M' b) = none
    by_cases hb : b = a
    · rw [if_pos hb]
    · rw [if_neg hb]; exact n.fr b (by rw [upd_ne hb]; exact n1) n2
  · rcases e with e | e
    · have hb : b ≠ a := fun z => by
        subst z
        rcases e with e | ⟨o, e⟩
        · rw [am] at e; cases e
        · rw [am] at e; cases e
      refine .inl ?_
      rcases e with e | ⟨o, e⟩
      · exact .inl (by show (if b = a then none else M' b) = _; rw [if_neg hb]; exact e)
      · exact .inr ⟨o, by show (if b = a then none else M' b) = _; rw [if_neg hb]; exact e⟩
    · exact .inr e⟩
theorem t_read (m : Nat) {s : Ty α} {xs : List α} {d : Bool} (h : G[m]? = some (.ow s xs)) (he : T X (G.set m (.vl (tLst s) xs)) e d) : T X G e d := ⟨fun {M0 H0 M H σ} S Q q => by
  obtain ⟨a, vs, hh, ma, h0, S'⟩ := S.freeze h
  refine he.run S' _ fun M' H' n => ?_
  have am : M' a = some (.lst vs) := n.vx _ _ upd_same
  refine q (fun b => if b = a then none else M' b) H' ⟨n.ex, fun b o e => ?_, fun b o e => ?_, fun b n1 n2 => ?_⟩
  · have hb : b ≠ a := ne_of_none e ma
    show (if b = a then none else M' b) = some o
    rw [if_neg hb]
    exact n.vx _ _ (by rw [upd_ne hb]; exact e)
  · have e' : (if b = a then none else M' b) = some o := e
    by_cases hb : b = a
    · rw [if_pos hb] at e'; cases e'
    · rw [if_neg hb] at e'; exact n.sub _ _ e'
  · show (if b = a then none else M' b) = none
    by_cases hb : b = a
    · rw [if_pos hb]
    · rw [if_neg hb]; exact n.fr b (by rw [upd_ne hb]; exact n1) n2⟩
/-- .. for a new list of things that don't lean on lists -/
theorem el_read (m : Nat) {s : Ty α} {xs : List α} {ys : List β} (h : G[m]? = some (.ow s xs)) (hi : Imm X.K t) (he : EL X (G.set m (.vl (tLst s) xs)) e t ys) : EL X G e t ys := ⟨fun {M0 H0 M H σ} S Q q => by
  obtain ⟨a, vs, hh, ma, h0, S'⟩ := S.freeze h
  refine he.run S' _ fun p M' H' ws n hp mp hw r => ?_
  have am : M' a = some (.lst vs) := n.vx _ _ upd_same
  have pa : p ≠ a := fun z => by subst z; rw [hp] at hh; cases hh
  refine q p (fun b => if b = a then none else M' b) H' ws ⟨n.ex, fun b o e => ?_, fun b o e => ?_, fun b n1 n2 => ?_⟩ hp (by show (if p = a then none else M' p) = none; rw [if_neg pa]; exact mp) hw (paired_imp (fun v x r => hi _ _ _ _ (fun b xs e => ?_) r) r)
  · have hb : b ≠ a := ne_of_none e ma
    show (if b = a then none else M' b) = some o
    rw [if_neg hb]
    exact n.vx _ _ (by rw [upd_ne hb]; exact e)
  · have e' : (if b = a then none else M' b) = some o := e
    by_cases hb : b = a
    · rw [if_pos hb] at e'; cases e'
    · rw [if_neg hb] at e'; exact n.sub _ _ e'
  · show (if b = a then none else M' b) = none
    by_cases hb : b = a
    · rw [if_pos hb]
    · rw [if_neg hb]; exact n.fr b (by rw [upd_ne hb]; exact n1) n2
  · rcases e with e | e
    · have hb : b ≠ a := fun z => by
        subst z
        rcases e with e | ⟨o, e⟩
        · rw [am] at e; cases e
        · rw [am] at e; cases e
      refine .inl ?_
      rcases e with e | ⟨o, e⟩
      · exact .inl (by show (if b = a then none else M' b) = _; rw [if_neg hb]; exact e)
      · exact .inr ⟨o, by show (if b = a then none else M' b) = _; rw [if_neg hb]; exact e⟩
    · exact .inr e⟩

/-! ### comprehensions -/
/-- in the block: the context is any X' that the block makes -/
def Blk (X X' : Cx) (scope : Scope) : Prop := ∃ (s : Shared) (H : Hp) (C : Addr) (cl : List (Str × Addr)) (fp : List Addr), X' = X.blk s H scope (compEnvC scope cl C X.env) fp
variable {scope : Scope} {own : List (Str × Nat)} {n : Str} {pn : Pos}
theorem wiped {σ : L2.St} {v : V} {i : Nat} {vs : List Nat} (hi : i ∈ vs) : L2.wipe ((L2.wipe σ vs).set i (some v)) vs = L2.wipe σ vs := by
  have key : ∀ (us : List Nat) (τ : L2.St) (j : Nat), (L2.wipe τ us)[j]? = if j ∈ us then (if j < τ.length then some none else none) else τ[j]? := by
    intro us
    induction us with
    | nil => intro τ j; simp [L2.wipe]
    | cons u us ih =>
      intro τ j
      show ((L2.wipe τ us).set u none)[j]? = _
      by_cases hj : u = j
      · subst hj
        rw [List.getElem?_set]
        simp [wipe_length]
      · rw [List.getElem?_set_ne hj, ih τ j]
        have : (j ∈ u :: us) ↔ j ∈ us := by simp [Ne.symm hj]
        simp [this]
  apply List.ext_getElem?
  intro j
  rw [key, key]
  by_cases hj : j ∈ vs
  · rw [if_pos hj, if_pos hj]
    rw [List.length_set, wipe_length]
  · rw [if_neg hj, if_neg hj]
    rw [List.getElem?_set_ne (fun z => hj (by rw [← z]; exact hi)), key, if_neg hj]
/-- the element's reading in any block -/
def wBlk (X : Cx) (scope : Scope) (e : Expr) : TE := fun σ H Q => ∀ (s0 : Shared) (H' : Hp) (C : Addr) (cl : List (Str × Addr)) (fp : List Addr), wE (X.blk s0 H' scope (compEnvC scope cl C X.env) fp) e σ H Q
theorem pe_blk {X : Cx} {scope : Scope} {e : Expr} (s0 : Shared) (H' : Hp) (C : Addr) (cl : List (Str × Addr)) (fp : List Addr) : PE (X.blk s0 H' scope (compEnvC scope cl C X.env) fp) e (wBlk X scope e) :=
  ⟨fun pins s σ H Q I h => pe_w.run pins s σ H Q I (h s0 H' C cl fp)⟩
def wBlkT (X : Cx) (scope : Scope) (e : Expr) : TT := fun σ H Q => ∀ (s0 : Shared) (H' : Hp) (C : Addr) (cl : List (Str × Addr)) (fp : List Addr), wT (X.blk s0 H' scope (compEnvC scope cl C X.env) fp) e σ H Q
theorem pt_blk {X : Cx} {scope : Scope} {e : Expr} (s0 : Shared) (H' : Hp) (C : Addr) (cl : List (Str × Addr)) (fp : List Addr) : PT (X.blk s0 H' scope (compEnvC scope cl C X.env) fp) e (wBlkT X scope e) :=
  ⟨fun pins s σ H Q I h => pt_w.run pins s σ H Q I (h s0 H' C cl fp)⟩
/-- behind m turns of a comprehension: the list at D holds what is made -/
def LcI {β : Type} (K : Fg) (t : Ty β) (M1 H1 : Hp) (D : Addr) (ys : List β) (H : Hp) : Prop := ∃ M vs, Nx M1 H1 M H ∧ M D = none ∧ H D = some (.lst vs) ∧ Paired (t.rep K M) vs ys
theorem lcI_turn {X X' : Cx} {G : List Sl} {e : Expr} {t : Ty β} {y : β} {M0 H0 M1 H1 H : Hp} {D : Addr} {ys : List β} {σ : L2.St} (hK : X'.K = X.K) (hD : H1 D = none) (hI : LcI X.K t M1 H1 D ys H) (hz : ys.length < 1000000)
    (S : ∀ M, Nx M1 H1 M H → St X'.K M0 H0 M H σ G) (he : E X' G e t y) : wE X' e σ H fun v H4 => ∃ acc, H4 D = some (.lst acc) ∧ acc.length < sizeLine ∧ LcI X.K t M1 H1 D (ys ++ [y]) (upd H4 D (.lst (acc ++ [v]))) := by
  obtain ⟨M, vs, n, hm, hh, pr⟩ := hI
  refine he.run (S M n) _ fun v M' H' n' r => ?_
  have h4 := n'.ex _ _ hh
  have mD : M' D = none := n'.fr D hm (by rw [hh]; simp)
  have nn := n.trans n'
  refine ⟨vs, h4, by rw [pr.length]; exact Nat.lt_of_lt_of_le hz (by decide), M', vs ++ [v], ⟨fun b o q => ?_, nn.vx, fun b o q => ?_, nn.fr⟩, mD, upd_same, paired_app (paired_imp (fun _ _ q => t.ext n'.vx q) pr) (.cons (by rw [← hK]; exact r) .nil)⟩
  · rw [upd_ne (ne_of_none q hD)]; exact nn.ex b o q
  · rw [upd_ne (ne_of_none q mD)]; exact nn.sub b o q
theorem lcI_start {K : Fg} {t : Ty β} {M1 H1 : Hp} {D : Addr} (m : Same M1 H1) (hD : H1 D = none) : LcI K t M1 H1 D [] (upd H1 D (.lst [])) :=
  ⟨M1, [], nx_lay m hD, same_none m hD, upd_same, .nil⟩
theorem St.block {K : Fg} {M0 H0 M1 H1 M H : Hp} {σ : L2.St} {G : List Sl} (S : St K M0 H0 M1 H1 σ G) (n : Nx M1 H1 M H) (vs : List Nat) {α : Type} {s : Ty α} {x : α} {v : V} (i : Nat) (r : s.rep K M1 v x) : St K M0 H0 M H ((L2.wipe σ vs).set i (some v)) ((wipeG G vs).set i (.vl s x)) :=
  ((S.next n).wipe vs).set (s := .vl s x) (s.ext n.vx r)
theorem take_snoc {α : Type} {xs : List α} {m : Nat} {x : α} (h : xs[m]? = some x) : xs.take (m + 1) = xs.take m ++ [x] := by
  rw [List.take_add_one, h]; rfl
/-- a list comprehension, whatever becomes of its list -/
structure LC (X : Cx) (G : List Sl) (elt tg iter : Expr) (ifs : List Expr) (scope : Scope) (t : Ty β) (ys : List β) : Prop where
  ex : ∃ (wi : TI) (g : TG) (tt : TT) (te : TE) (own : List (Str × Nat)), PI X tg iter wi ∧ BlkOk X.N X.env.scope scope own ∧
    (∀ (s : Shared) (H : Hp) (C : Addr) (cl : List (Str × Addr)) (fp : List Addr), PG (X.blk s H scope (compEnvC scope cl C X.env) fp) tg g) ∧
    (∀ (s : Shared) (H : Hp) (C : Addr) (cl : List (Str × Addr)) (fp : List Addr), PTs (X.blk s H scope (compEnvC scope cl C X.env) fp) ifs tt) ∧
    (∀ (s : Shared) (H : Hp) (C : Addr) (cl : List (Str × Addr)) (fp : List Addr), PE (X.blk s H scope (compEnvC scope cl C X.env) fp) elt te) ∧ (∀ x, foldedSetIterable iter X.env x = pure x) ∧
    ∀ {M0 H0 M H : Hp} {σ : L2.St}, St X.K M0 H0 M H σ G → ∀ (Q : VK), (∀ p M' H' vs, Nx M H M' H' → H p = none → M' p = none → H' p = some (.lst vs) → Paired (t.rep X.K M') vs ys → Q (.ref p) H') → tLc wi g tt te (own.map (·.2)) σ H Q
theorem el_lc {elt tg iter : Expr} {ifs : List Expr} {ys : List β} (h : LC X G elt tg iter ifs scope t ys) (hcm : X.calm = true) (hN : X.N.Nodup) : EL X G (.ListComp elt [⟨tg, iter, ifs, 0⟩] scope pos) t ys := by
  obtain ⟨wi, g, tt, te, own, h1, h2, h3, h4, h5, h6, h7⟩ := h.ex
  exact ⟨fun S Q q => ⟨_, pe_lc hcm hN h1 h2 h3 h4 h5 h6, h7 S Q q⟩⟩
theorem s_lc (k : Nat) {elt tg iter : Expr} {ifs : List Expr} {ys : List β} {nm : Str} {py : Pos} {pos' : Pos} {R : Out} (h : LC X G elt tg iter ifs scope t ys) (hnx : R.nx (G.set k (.ow t ys))) (hcm : X.calm = true) (hN : X.N.Nodup) (hi : X.N[k]? = some nm := by rfl) (hy : X.env.scope.names.lookup nm = some .local := by rfl)
    (hsw : swapsWith (.ListComp elt [⟨tg, iter, ifs, 0⟩] scope pos) (some (.Name nm py)) pos'.line X.env = pure true := by first | exact sw_true rfl rfl rfl (by decide +kernel) | rfl) : S1 X G (.Assign [.Name nm py] (.ListComp elt [⟨tg, iter, ifs, 0⟩] scope pos) pos') R := by
  obtain ⟨wi, g, tt, te, own, h1, h2, h3, h4, h5, h6, h7⟩ := h.ex
  exact ⟨fun D E S tk f => ⟨_, ps_setLc hcm hN hi hy hsw h1 h2 h3 h4 h5 h6, h7 S _ fun p M1 H1 vs n1 hp mp hh r1 => f.nx (S.setOwn n1 hp mp hh r1) hnx⟩⟩
theorem lc_T {f : α → β} {xs : List α} (he : E X G a (tTup s) xs) (i : Nat)
    (hel : ∀ (s0 : Shared) (H : Hp) (C : Addr) (cl : List (Str × Addr)) (fp : List Addr) (m : Nat) (x : α), xs[m]? = some x → E (X.blk s0 H scope (compEnvC scope cl C X.env) fp) ((wipeG G (own.map (·.2))).set i (.vl s x)) e t (f x))
    (ok : BlkOk X.N X.env.scope scope own) (hz : xs.length ≤ 1000000)
    (hg : ∀ (s0 : Shared) (H : Hp) (C : Addr) (cl : List (Str × Addr)) (fp : List Addr), PG (X.blk s0 H scope (compEnvC scope cl C X.env) fp) (.Name n pn) (gName i)) (hio : i ∈ own.map (·.2) := by decide)
    (hs : ∀ x, foldedSetIterable a X.env x = pure x := by intro _; rfl) : LC X G e (.Name n pn) (a) [] scope t (xs.map f) := ⟨_, _, _, wBlk X scope e, own, (pi_tup pe_w), ok, hg, (fun _ _ _ _ _ => pts_nil), (fun s0 H C cl fp => pe_blk s0 H C cl fp), hs, fun {M0 H0 M H σ} S Q q => by
  refine he.run S _ fun v M1 H1 n1 r1 => ?_
  obtain ⟨p, vs, e1, e2, e3⟩ := r1
  refine ⟨p, e1, ⟨vs, sqT_ext n1.sub e2⟩, fun D hD => lc_tup (K := X.K) (a := p) (xs := vs) (fun m H' => LcI X.K t M1 H1 D ((xs.take m).map f) H') (lcI_start n1.sub hD) (fun m H' _ ⟨M', _, n', _⟩ => sqT_ext (n'.vx.trans n'.sub) e2) ?_ ?_⟩
  · intro m w H' hm hI
    obtain ⟨x', g1, g2⟩ := paired_get' e3 hm
    refine ⟨wiped hio, fun s0 H2 C cl fp => ?_⟩
    rw [take_snoc g1, List.map_append]
    have hl : ((xs.take m).map f).length < 1000000 := by
      have := (List.getElem?_eq_some_iff.mp g1).1
      rw [List.length_map, List.length_take]; omega
    exact lcI_turn (X := X) rfl hD hI hl (fun M' n' => St.block (S.next n1) n' _ i g2) (hel s0 H2 C cl fp m x' g1)
  · rintro H' ⟨M', ws, n', mD, hh, pr⟩
    rw [e3.length, List.take_length] at pr
    exact q D M' H' ws (n1.trans n') (n1.ex.free hD) mD hh pr⟩
theorem lc_L {f : α → β} {xs : List α} (he : E X G a (tLst s) xs) (i : Nat)
    (hel : ∀ (s0 : Shared) (H : Hp) (C : Addr) (cl : List (Str × Addr)) (fp : List Addr) (m : Nat) (x : α), xs[m]? = some x → E (X.blk s0 H scope (compEnvC scope cl C X.env) fp) ((wipeG G (own.map (·.2))).set i (.vl s x)) e t (f x))
    (ok : BlkOk X.N X.env.scope scope own) (hz : xs.length ≤ 1000000)
    (hg : ∀ (s0 : Shared) (H : Hp) (C : Addr) (cl : List (Str × Addr)) (fp : List Addr), PG (X.blk s0 H scope (compEnvC scope cl C X.env) fp) (.Name n pn) (gName i)) (hio : i ∈ own.map (·.2) := by decide)
    (hs : ∀ x, foldedSetIterable a X.env x = pure x := by intro _; rfl) : LC X G e (.Name n pn) (a) [] scope t (xs.map f) := ⟨_, _, _, wBlk X scope e, own, (pi_list pe_w), ok, hg, (fun _ _ _ _ _ => pts_nil), (fun s0 H C cl fp => pe_blk s0 H C cl fp), hs, fun {M0 H0 M H σ} S Q q => by
  refine he.run S _ fun v M1 H1 n1 r1 => ?_
  obtain ⟨p, vs, e1, e2, e3⟩ := r1
  refine ⟨p, e1, ⟨vs, SqL.of (n1.sub _ _ e2)⟩, fun D hD => lc_list (K := X.K) (a := p) (xs := vs) (fun m H' => LcI X.K t M1 H1 D ((xs.take m).map f) H') (lcI_start n1.sub hD) (fun m H' _ ⟨M', _, n', _⟩ => SqL.of (n'.sub _ _ (n'.vx _ _ e2))) ?_ ?_⟩
  · intro m w H' hm hI
    obtain ⟨x', g1, g2⟩ := paired_get' e3 hm
    refine ⟨wiped hio, fun s0 H2 C cl fp => ?_⟩
    rw [take_snoc g1, List.map_append]
    have hl : ((xs.take m).map f).length < 1000000 := by
      have := (List.getElem?_eq_some_iff.mp g1).1
      rw [List.length_map, List.length_take]; omega
    exact lcI_turn (X := X) rfl hD hI hl (fun M' n' => St.block (S.next n1) n' _ i g2) (hel s0 H2 C cl fp m x' g1)
  · rintro H' ⟨M', ws, n', mD, hh, pr⟩
    rw [e3.length, List.take_length] at pr
    exact q D M' H' ws (n1.trans n') (n1.ex.free hD) mD hh pr⟩
theorem lc_S {f : α → β} {xs : List α} (he : E X G a (tSq s) xs) (i : Nat)
    (hel : ∀ (s0 : Shared) (H : Hp) (C : Addr) (cl : List (Str × Addr)) (fp : List Addr) (m : Nat) (x : α), xs[m]? = some x → E (X.blk s0 H scope (compEnvC scope cl C X.env) fp) ((wipeG G (own.map (·.2))).set i (.vl s x)) e t (f x))
    (ok : BlkOk X.N X.env.scope scope own) (hz : xs.length ≤ 1000000)
    (hg : ∀ (s0 : Shared) (H : Hp) (C : Addr) (cl : List (Str × Addr)) (fp : List Addr), PG (X.blk s0 H scope (compEnvC scope cl C X.env) fp) (.Name n pn) (gName i)) (hio : i ∈ own.map (·.2) := by decide)
    (hs : ∀ x, foldedSetIterable a X.env x = pure x := by intro _; rfl) : LC X G e (.Name n pn) (a) [] scope t (xs.map f) := ⟨_, _, _, wBlk X scope e, own, (pi_list pe_w), ok, hg, (fun _ _ _ _ _ => pts_nil), (fun s0 H C cl fp => pe_blk s0 H C cl fp), hs, fun {M0 H0 M H σ} S Q q => by
  refine he.run S _ fun v M1 H1 n1 r1 => ?_
  obtain ⟨p, vs, e1, e2, e3⟩ := r1
  refine ⟨p, e1, ⟨vs, sqL_ext n1.sub e2⟩, fun D hD => lc_list (K := X.K) (a := p) (xs := vs) (fun m H' => LcI X.K t M1 H1 D ((xs.take m).map f) H') (lcI_start n1.sub hD) (fun m H' _ ⟨M', _, n', _⟩ => sqL_ext (n'.vx.trans n'.sub) e2) ?_ ?_⟩
  · intro m w H' hm hI
    obtain ⟨x', g1, g2⟩ := paired_get' e3 hm
    refine ⟨wiped hio, fun s0 H2 C cl fp => ?_⟩
    rw [take_snoc g1, List.map_append]
    have hl : ((xs.take m).map f).length < 1000000 := by
      have := (List.getElem?_eq_some_iff.mp g1).1
      rw [List.length_map, List.length_take]; omega
    exact lcI_turn (X := X) rfl hD hI hl (fun M' n' => St.block (S.next n1) n' _ i g2) (hel s0 H2 C cl fp m x' g1)
  · rintro H' ⟨M', ws, n', mD, hh, pr⟩
    rw [e3.length, List.take_length] at pr
    exact q D M' H' ws (n1.trans n') (n1.ex.free hD) mD hh pr⟩
/-- [e for i in range(n)] -/
theorem lc_R {f : Nat → β} {j : Int} {p1 p2 : Pos} (hm : X.mg "range" = none) (he : E X G a tI j) (hj : -1000000 ≤ j ∧ j ≤ 1000000) (i : Nat)
    (hel : ∀ (s0 : Shared) (H : Hp) (C : Addr) (cl : List (Str × Addr)) (fp : List Addr) (m : Nat), (m : Int) < j → E (X.blk s0 H scope (compEnvC scope cl C X.env) fp) ((wipeG G (own.map (·.2))).set i (.vl tI (m : Int))) e t (f m))
    (ok : BlkOk X.N X.env.scope scope own)
    (hg : ∀ (s0 : Shared) (H : Hp) (C : Addr) (cl : List (Str × Addr)) (fp : List Addr), PG (X.blk s0 H scope (compEnvC scope cl C X.env) fp) (.Name n pn) (gName i)) (hio : i ∈ own.map (·.2) := by decide)
    (hgr : Gl X "range" := by rfl) (hst : starEach [a] X.env = [(false, eval a X.env)] := by rfl)
    (hs : ∀ x, foldedSetIterable (.Call (.Name "range" p1) [a] [] p2) X.env x = pure x := by intro _; rfl) : LC X G e (.Name n pn) (.Call (.Name "range" p1) [a] [] p2) [] scope t ((List.range j.toNat).map f) := ⟨_, _, _, wBlk X scope e, own, (pi_range1 hgr hm (pa_cons pe_w pa_nil hst) hst), ok, hg, (fun _ _ _ _ _ => pts_nil), (fun s0 H C cl fp => pe_blk s0 H C cl fp), hs, fun {M0 H0 M H σ} S Q q => by
  refine he.run S _ fun v M1 H1 n1 r1 => ?_
  refine ⟨j, by rw [show v = V.int j from r1], by omega, by omega, fun D hD => lc_range (lo := 0) (n := j.toNat) (fun m H' => LcI X.K t M1 H1 D ((List.range m).map f) H') (lcI_start n1.sub hD) ?_ ?_⟩
  · intro m H' hm hI
    have e0 : (0 : Int) + (m : Int) = (m : Int) := Int.zero_add _
    rw [e0]
    refine ⟨wiped hio, fun s0 H2 C cl fp => ?_⟩
    rw [List.range_succ, List.map_append]
    have hl : ((List.range m).map f).length < 1000000 := by
      rw [List.length_map, List.length_range]; omega
    exact lcI_turn (X := X) rfl hD hI hl (fun M' n' => St.block (S.next n1) n' _ i (s := tI) (x := (m : Int)) rfl) (hel s0 H2 C cl fp m (by omega))
  · rintro H' ⟨M', ws, n', mD, hh, pr⟩
    exact q D M' H' ws (n1.trans n') (n1.ex.free hD) mD hh pr⟩
/-- with a test -/
theorem lcI_test {X X' : Cx} {G : List Sl} {c : Expr} {t : Ty β} {M0 H0 M1 H1 H : Hp} {D : Addr} {ys : List β} {σ : L2.St} {d : Bool} {R : Bool → Hp → Prop} (hI : LcI X.K t M1 H1 D ys H)
    (S : ∀ M, Nx M1 H1 M H → St X'.K M0 H0 M H σ G) (ht : T X' G c d) (k : ∀ H3, LcI X.K t M1 H1 D ys H3 → R d H3) : wT X' c σ H R := by
  obtain ⟨M, vs, n, hm, hh, pr⟩ := hI
  refine ht.run (S M n) _ fun M' H' n' => k H' ⟨M', vs, n.trans n', n'.fr D hm (by rw [hh]; simp), n'.ex _ _ hh, paired_imp (fun _ _ q => t.ext n'.vx q) pr⟩
theorem lc_TF {f : α → β} {g : α → Bool} {xs : List α} (he : E X G a (tTup s) xs) (i : Nat)
    (htt : ∀ (s0 : Shared) (H : Hp) (C : Addr) (cl : List (Str × Addr)) (fp : List Addr) (m : Nat) (x : α), xs[m]? = some x → T (X.blk s0 H scope (compEnvC scope cl C X.env) fp) ((wipeG G (own.map (·.2))).set i (.vl s x)) c (g x))
    (hel : ∀ (s0 : Shared) (H : Hp) (C : Addr) (cl : List (Str × Addr)) (fp : List Addr) (m : Nat) (x : α), xs[m]? = some x → g x = true → E (X.blk s0 H scope (compEnvC scope cl C X.env) fp) ((wipeG G (own.map (·.2))).set i (.vl s x)) e t (f x))
    (ok : BlkOk X.N X.env.scope scope own) (hz : xs.length ≤ 1000000)
    (hg : ∀ (s0 : Shared) (H : Hp) (C : Addr) (cl : List (Str × Addr)) (fp : List Addr), PG (X.blk s0 H scope (compEnvC scope cl C X.env) fp) (.Name n pn) (gName i)) (hio : i ∈ own.map (·.2) := by decide)
    (hs : ∀ x, foldedSetIterable a X.env x = pure x := by intro _; rfl) : LC X G e (.Name n pn) (a) [c] scope t ((xs.filter g).map f) := ⟨_, _, wBlkT X scope c, wBlk X scope e, own, (pi_tup pe_w), ok, hg, (fun s0 H C cl fp => pts_one (pt_blk s0 H C cl fp)), (fun s0 H C cl fp => pe_blk s0 H C cl fp), hs, fun {M0 H0 M H σ} S Q q => by
  refine he.run S _ fun v M1 H1 n1 r1 => ?_
  obtain ⟨p, vs, e1, e2, e3⟩ := r1
  refine ⟨p, e1, ⟨vs, sqT_ext n1.sub e2⟩, fun D hD => lc_tup (K := X.K) (a := p) (xs := vs) (fun m H' => LcI X.K t M1 H1 D (((xs.take m).filter g).map f) H') (lcI_start n1.sub hD) (fun m H' _ ⟨M', _, n', _⟩ => sqT_ext (n'.vx.trans n'.sub) e2) ?_ ?_⟩
  · intro m w H' hm hI
    obtain ⟨x', g1, g2⟩ := paired_get' e3 hm
    refine ⟨wiped hio, fun s0 H2 C cl fp => lcI_test hI (fun M' n' => St.block (S.next n1) n' _ i g2) (htt s0 H2 C cl fp m x' g1) fun H3 hI3 => ?_⟩
    cases hd : g x' with
    | true =>
      rw [if_pos rfl]
      intro s0 H2 C cl fp
      rw [take_snoc g1, List.filter_append, List.map_append, show List.filter g [x'] = [x'] by simp [hd]]
      have hl : (((xs.take m).filter g).map f).length < 1000000 := by
        have h1 := (List.getElem?_eq_some_iff.mp g1).1
        have h2 := List.length_filter_le g (xs.take m)
        rw [List.length_take] at h2
        rw [List.length_map]; omega
      exact lcI_turn (X := X) rfl hD hI3 hl (fun M' n' => St.block (S.next n1) n' _ i g2) (hel s0 H2 C cl fp m x' g1 hd)
    | false =>
      rw [if_neg (by decide)]
      rw [take_snoc g1, List.filter_append, show List.filter g [x'] = [] by simp [hd], List.append_nil]
      exact hI3
  · rintro H' ⟨M', ws, n', mD, hh, pr⟩
    rw [e3.length, List.take_length] at pr
    exact q D M' H' ws (n1.trans n') (n1.ex.free hD) mD hh pr⟩
theorem lc_LF {f : α → β} {g : α → Bool} {xs : List α} (he : E X G a (tLst s) xs) (i : Nat)
    (htt : ∀ (s0 : Shared) (H : Hp) (C : Addr) (cl : List (Str × Addr)) (fp : List Addr) (m : Nat) (x : α), xs[m]? = some x → T (X.blk s0 H scope (compEnvC scope cl C X.env) fp) ((wipeG G (own.map (·.2))).set i (.vl s x)) c (g x))
    (hel : ∀ (s0 : Shared) (H : Hp) (C : Addr) (cl : List (Str × Addr)) (fp : List Addr) (m : Nat) (x : α), xs[m]? = some x → g x = true → E (X.blk s0 H scope (compEnvC scope cl C X.env) fp) ((wipeG G (own.map (·.2))).set i (.vl s x)) e t (f x))
    (ok : BlkOk X.N X.env.scope scope own) (hz : xs.length ≤ 1000000)
    (hg : ∀ (s0 : Shared) (H : Hp) (C : Addr) (cl : List (Str × Addr)) (fp : List Addr), PG (X.blk s0 H scope (compEnvC scope cl C X.env) fp) (.Name n pn) (gName i)) (hio : i ∈ own.map (·.2) := by decide)
    (hs : ∀ x, foldedSetIterable a X.env x = pure x := by intro _; rfl) : LC X G e (.Name n pn) (a) [c] scope t ((xs.filter g).map f) := ⟨_, _, wBlkT X scope c, wBlk X scope e, own, (pi_list pe_w), ok, hg, (fun s0 H C cl fp => pts_one (pt_blk s0 H C cl fp)), (fun s0 H C cl fp => pe_blk s0 H C cl fp), hs, fun {M0 H0 M H σ} S Q q => by
  refine he.run S _ fun v M1 H1 n1 r1 => ?_
  obtain ⟨p, vs, e1, e2, e3⟩ := r1
  refine ⟨p, e1, ⟨vs, SqL.of (n1.sub _ _ e2)⟩, fun D hD => lc_list (K := X.K) (a := p) (xs := vs) (fun m H' => LcI X.K t M1 H1 D (((xs.take m).filter g).map f) H') (lcI_start n1.sub hD) (fun m H' _ ⟨M', _, n', _⟩ => SqL.of (n'.sub _ _ (n'.vx _ _ e2))) ?_ ?_⟩
  · intro m w H' hm hI
    obtain ⟨x', g1, g2⟩ := paired_get' e3 hm
    refine ⟨wiped hio, fun s0 H2 C cl fp => lcI_test hI (fun M' n' => St.block (S.next n1) n' _ i g2) (htt s0 H2 C cl fp m x' g1) fun H3 hI3 => ?_⟩
    cases hd : g x' with
    | true =>
      rw [if_pos rfl]
      intro s0 H2 C cl fp
      rw [take_snoc g1, List.filter_append, List.map_append, show List.filter g [x'] = [x'] by simp [hd]]
      have hl : (((xs.take m).filter g).map f).length < 1000000 := by
        have h1 := (List.getElem?_eq_some_iff.mp g1).1
        have h2 := List.length_filter_le g (xs.take m)
        rw [List.length_take] at h2
        rw [List.length_map]; omega
      exact lcI_turn (X := X) rfl hD hI3 hl (fun M' n' => St.block (S.next n1) n' _ i g2) (hel s0 H2 C cl fp m x' g1 hd)
    | false =>
      rw [if_neg (by decide)]
      rw [take_snoc g1, List.filter_append, show List.filter g [x'] = [] by simp [hd], List.append_nil]
      exact hI3
  · rintro H' ⟨M', ws, n', mD, hh, pr⟩
    rw [e3.length, List.take_length] at pr
    exact q D M' H' ws (n1.trans n') (n1.ex.free hD) mD hh pr⟩
theorem lc_RF {f : Nat → β} {g : Nat → Bool} {j : Int} {p1 p2 : Pos} (hm : X.mg "range" = none) (he : E X G a tI j) (hj : -1000000 ≤ j ∧ j ≤ 1000000) (i : Nat)
    (htt : ∀ (s0 : Shared) (H : Hp) (C : Addr) (cl : List (Str × Addr)) (fp : List Addr) (m : Nat), (m : Int) < j → T (X.blk s0 H scope (compEnvC scope cl C X.env) fp) ((wipeG G (own.map (·.2))).set i (.vl tI (m : Int))) c (g m))
    (hel : ∀ (s0 : Shared) (H : Hp) (C : Addr) (cl : List (Str × Addr)) (fp : List Addr) (m : Nat), (m : Int) < j → g m = true → E (X.blk s0 H scope (compEnvC scope cl C X.env) fp) ((wipeG G (own.map (·.2))).set i (.vl tI (m : Int))) e t (f m))
    (ok : BlkOk X.N X.env.scope scope own)
    (hg : ∀ (s0 : Shared) (H : Hp) (C : Addr) (cl : List (Str × Addr)) (fp : List Addr), PG (X.blk s0 H scope (compEnvC scope cl C X.env) fp) (.Name n pn) (gName i)) (hio : i ∈ own.map (·.2) := by decide)
    (hgr : Gl X "range" := by rfl) (hst : starEach [a] X.env = [(false, eval a X.env)] := by rfl)
    (hs : ∀ x, foldedSetIterable (.Call (.Name "range" p1) [a] [] p2) X.env x = pure x := by intro _; rfl) : LC X G e (.Name n pn) (.Call (.Name "range" p1) [a] [] p2) [c] scope t (((List.range j.toNat).filter g).map f) := ⟨_, _, wBlkT X scope c, wBlk X scope e, own, (pi_range1 hgr hm (pa_cons pe_w pa_nil hst) hst), ok, hg, (fun s0 H C cl fp => pts_one (pt_blk s0 H C cl fp)), (fun s0 H C cl fp => pe_blk s0 H C cl fp), hs, fun {M0 H0 M H σ} S Q q => by
  refine he.run S _ fun v M1 H1 n1 r1 => ?_
  refine ⟨j, by rw [show v = V.int j from r1], by omega, by omega, fun D hD => lc_range (lo := 0) (n := j.toNat) (fun m H' => LcI X.K t M1 H1 D (((List.range m).filter g).map f) H') (lcI_start n1.sub hD) ?_ ?_⟩
  · intro m H' hm hI
    have e0 : (0 : Int) + (m : Int) = (m : Int) := Int.zero_add _
    rw [e0]
    refine ⟨wiped hio, fun s0 H2 C cl fp => lcI_test hI (fun M' n' => St.block (S.next n1) n' _ i (s := tI) (x := (m : Int)) rfl) (htt s0 H2 C cl fp m (by omega)) fun H3 hI3 => ?_⟩
    cases hd : g m with
    | true =>
      rw [if_pos rfl]
      intro s0 H2 C cl fp
      rw [List.range_succ, List.filter_append, List.map_append, show List.filter g [m] = [m] by simp [hd]]
      have hl : (((List.range m).filter g).map f).length < 1000000 := by
        have h2 := List.length_filter_le g (List.range m)
        rw [List.length_range] at h2
        rw [List.length_map]; omega
      exact lcI_turn (X := X) rfl hD hI3 hl (fun M' n' => St.block (S.next n1) n' _ i (s := tI) (x := (m : Int)) rfl) (hel s0 H2 C cl fp m (by omega) hd)
    | false =>
      rw [if_neg (by decide)]
      rw [List.range_succ, List.filter_append, show List.filter g [m] = [] by simp [hd], List.append_nil]
      exact hI3
  · rintro H' ⟨M', ws, n', mD, hh, pr⟩
    exact q D M' H' ws (n1.trans n') (n1.ex.free hD) mD hh pr⟩
end
end TL

namespace TL
open PySem PySem.Spec PyProof.Rows L2
section
variable {α β γ ι ρ : Type} {X : Cx} {G : List Sl} {a b c e : Expr} {es : List Expr} {st : Stmt} {rest th el body : List Stmt} {s : Ty α} {t : Ty β} {u : Ty γ} {x : α} {y : β} {z : γ} {pos : Pos} {i j : Int} {xs ys : List α} {p q : Bool} {R : Out} {k : Nat}

/-! ### xs[i] op= e, xs of the frame's own -/
theorem get_list : PGet X (rIxL X.K) := by
  intro pins s σ H o i ov iv Q I ro ri h
  obtain ⟨p, xs, k, z, rfl, rfl, hq, he, q⟩ := h
  cases ro
  obtain ⟨t, rfl⟩ := ri
  obtain ⟨its, r, pl, hz⟩ := I.list hq
  have hl := r.length
  have hn := line63
  obtain ⟨j, h1, h2, h3, h4, h5⟩ := atI_get he
  obtain ⟨w, ew, rw'⟩ := r.get h2
  have fin : EP X pins σ Q w s := ⟨z, H, I, rw', q⟩
  by_cases h0 : 0 ≤ k
  · have hj : k.toNat = j := by
      rw [seqIndex_of h0 h5] at h1
      exact Option.some.inj h1
    exact wpAny_getItem_list pl.isList h0 (by omega) (by rw [hj]; simpa using ew) fin
  · have hj : (k + (its.toArray.size : Int)).toNat = j := by
      rw [seqIndex_neg (by omega) h4] at h1
      rw [List.size_toArray, ← hl]
      exact Option.some.inj h1
    exact wpAny_getItem_list_neg pl.isList (by omega) (by rw [List.size_toArray] <;> omega) (by omega) (by rw [hj]; simpa using ew) fin
theorem s_augI (m : Nat) {n : Str} {p1 p2 : Pos} {ib : Expr} {ns : List Int} {l : Nat} {d : Int} (h0 : G[m]? = some (.ow tI ns)) (hib : E X G ib tI i) (he : E X G e tI j) (hl : ixN ns.length i = some l) (hd0 : ns[l]? = some d) (h : R.nx (G.set m (.ow tI (ns.set l (d + j))))) (hi : X.N[m]? = some n := by rfl)
    (hv : Vis X.env.scope n := by first | exact Or.inl rfl | exact Or.inr (Or.inl rfl) | exact Or.inr (Or.inr rfl))
    (hd : (n == ("__debug__" : Str)) = false := by decide) (hcd : (n == ("__classdict__" : Str)) = false := by decide)
    (ha : ∀ ov iv new, augStore ib ov iv new = (do holding [new, ov, iv] (setItem ov iv new); release [new, ov, iv] []; pure .next) := by intros; rfl) :
    S1 X G (.AugAssign (.Subscript (.Name n p1) ib p2) .Add e pos) R := ⟨fun D E S tk f => by
  refine ⟨_, ps_augS (pe_var hi hv hd hcd) pe_w get_list pe_w ip_add set_list ha, ?_⟩
  obtain ⟨a0, vs0, e0, hh0, _, _, _⟩ := S.putOwn (ys := ns) h0
  refine ⟨.ref a0, e0, hib.run S _ fun w M1 H1 n1 r1 => ?_⟩
  obtain ⟨a1, vs1, e1, hh1, mp1, pr1, _⟩ := (S.next n1).putOwn (ys := ns) h0
  rw [e0] at e1; cases e1
  have e4 := paired_int pr1
  subst e4
  have hat : atI (ns.map V.int) i = some (.int d) := by
    unfold atI
    rw [List.length_map, hl]
    show (ns.map V.int)[l]? = _
    rw [List.getElem?_map, hd0]; rfl
  refine ⟨a0, _, i, .int d, rfl, r1, SqL.of hh1, hat, he.run (S.next n1) _ fun w2 M2 H2 n2 r2 => ?_⟩
  refine ⟨d, j, rfl, r2, ?_⟩
  obtain ⟨a2, vs2, e2, hh2, mp2, pr2, upd'⟩ := (S.next (n1.trans n2)).putOwn (ys := ns.set l (d + j)) h0
  rw [e0] at e2; cases e2
  refine ⟨a0, vs2, i, l, rfl, r1, hh2, by rw [pr2.length]; exact hl, f.nx (upd' _ (paired_set (show tI.rep X.K _ (.int (d + j)) (d + j) from rfl) l pr2)) h⟩⟩
/-! ### a, b = e; for a, b in xs -/
theorem s_unp2 (m1 m2 : Nat) {n1 n2 : Str} {q1 q2 q3 : Pos} {kt : Nat} (he : E X G e (tP2 s t) (x, y)) (h : R.nx ((G.set m1 (.vl s x)).set m2 (.vl t y))) (hN : X.N.Nodup) (hcm : X.calm = true) (hi1 : X.N[m1]? = some n1 := by rfl) (hi2 : X.N[m2]? = some n2 := by rfl)
    (hx1 : Loc X.env.scope n1 := by first | exact Or.inl rfl | exact Or.inr rfl) (hx2 : Loc X.env.scope n2 := by first | exact Or.inl rfl | exact Or.inr rfl) (hf1 : X.fn n1 = true ∨ X.env.scope.names.lookup n1 = some .local := by first | exact .inl rfl | exact .inr rfl) (hf2 : X.fn n2 = true ∨ X.env.scope.names.lookup n2 = some .local := by first | exact .inl rfl | exact .inr rfl)
    (hs1 : (assignEach [.Name n1 q1, .Name n2 q2] X.env).map (·.2) = assign (.Name n1 q1) X.env :: (assignEach [.Name n2 q2] X.env).map (·.2) := by rfl) (hs2 : (assignEach [.Name n2 q2] X.env).map (·.2) = assign (.Name n2 q2) X.env :: (assignEach [] X.env).map (·.2) := by rfl)
    (hn : (assignEach [.Name n1 q1, .Name n2 q2] X.env).length = 2 := by rfl) (hst : (assignEach [.Name n1 q1, .Name n2 q2] X.env).findIdx? (·.1) = none := by rfl)
    (hs : swapsWithSole [.Tuple [.Name n1 q1, .Name n2 q2] kt q3] e pos.line X.env = pure false := by rfl) (hw : swappedStores [.Tuple [.Name n1 q1, .Name n2 q2] kt q3] e X.env = pure none := by rfl)
    (h1 : (assignEach [.Tuple [.Name n1 q1, .Name n2 q2] kt q3] X.env).map (·.2) = [assign (.Tuple [.Name n1 q1, .Name n2 q2] kt q3) X.env] := by rfl) :
    S1 X G (.Assign [.Tuple [.Name n1 q1, .Name n2 q2] kt q3] e pos) R := ⟨fun D E S tk f =>
  ⟨_, ps_asg pe_w (pg_tup hcm (pgs_cons (pg_name hN hi1 hx1 hf1) (pgs_cons (pg_name hN hi2 hx2 hf2) pgs_nil hs2) hs1) hn hst) hs hw h1, he.run S _ fun v M1 H1 n1 r1 => by
    obtain ⟨a, v1, v2, e1, e2, e3, e4⟩ := r1
    exact ⟨a, [v1, v2], e1, sqT_ext n1.sub e2, rfl, v1, [v2], rfl, v2, [], rfl, rfl, f.nx (((S.next n1).set (s := .vl s x) e3).set (s := .vl t y) e4) h⟩⟩⟩
theorem s_forL2 (m1 m2 : Nat) {n1 n2 : Str} {q1 q2 q3 : Pos} {kt : Nat} {zs : List (α × β)} (I : Nat → List Sl → Prop) (G0 : List Sl) (he : E X G a (tLst (tP2 s t)) zs) (w0 : Sub G G0) (h0 : I 0 G0)
    (hs : ∀ m x y G', zs[m]? = some (x, y) → I m G' → B X ((G'.set m1 (.vl s x)).set m2 (.vl t y)) body ⟨I (m + 1), R.rt, R.nx, I (m + 1), R.xc⟩) (hd : ∀ G', I zs.length G' → R.nx G')
    (hN : X.N.Nodup) (hcm : X.calm = true) (hi1 : X.N[m1]? = some n1 := by rfl) (hi2 : X.N[m2]? = some n2 := by rfl)
    (hx1 : Loc X.env.scope n1 := by first | exact Or.inl rfl | exact Or.inr rfl) (hx2 : Loc X.env.scope n2 := by first | exact Or.inl rfl | exact Or.inr rfl) (hf1 : X.fn n1 = true ∨ X.env.scope.names.lookup n1 = some .local := by first | exact .inl rfl | exact .inr rfl) (hf2 : X.fn n2 = true ∨ X.env.scope.names.lookup n2 = some .local := by first | exact .inl rfl | exact .inr rfl)
    (hs1 : (assignEach [.Name n1 q1, .Name n2 q2] X.env).map (·.2) = assign (.Name n1 q1) X.env :: (assignEach [.Name n2 q2] X.env).map (·.2) := by rfl) (hs2 : (assignEach [.Name n2 q2] X.env).map (·.2) = assign (.Name n2 q2) X.env :: (assignEach [] X.env).map (·.2) := by rfl)
    (hn : (assignEach [.Name n1 q1, .Name n2 q2] X.env).length = 2 := by rfl) (hst : (assignEach [.Name n1 q1, .Name n2 q2] X.env).findIdx? (·.1) = none := by rfl)
    (hp : PassesOwn (model X.prog X.w) X.A X.env X.xe := by first | exact PassesOwn.never | assumption)
    (hfs : ∀ x, foldedSetIterable a X.env x = pure x := by intro _; rfl) : S1 X G (.For (.Tuple [.Name n1 q1, .Name n2 q2] kt q3) a body [] pos) R := ⟨fun {M0 H0 M H σ} D E S tk f =>
  ⟨_, ps_for hp hcm (pi_list pe_w) (pg_tup hcm (pgs_cons (pg_name hN hi1 hx1 hf1) (pgs_cons (pg_name hN hi2 hx2 hf2) pgs_nil hs2) hs1) hn hst) pss_w hfs, he.run S _ fun v M1 H1 n1 r1 => by
    obtain ⟨p, vs, e1, e2, e3⟩ := r1
    have n0 := S.nx.trans n1
    refine ⟨p, e1, ⟨vs, SqL.of (n1.sub _ _ e2)⟩, for_list (K := X.K) (a := p) (xs := vs) (fun m σ' H' => ∃ M' G', St X.K M1 H0 M' H' σ' G' ∧ I m G') ⟨M1, G0, ((S.next n1).weak w0).rebase, h0⟩ (fun m σ' H' _ ⟨M', G', S', _⟩ => SqL.of (S'.sub _ _ (S'.nx.vx _ _ e2))) ?_ ?_⟩
    · rintro m w σ' H' hm ⟨M', G', S', hI⟩
      obtain ⟨⟨x', y'⟩, g1, g2⟩ := paired_get' e3 hm
      obtain ⟨pa, v1, v2, f1, f2, f3, f4⟩ := g2
      exact ⟨pa, [v1, v2], f1, sqT_ext (S'.nx.vx.trans S'.sub) f2, rfl, v1, [v2], rfl, v2, [], rfl, rfl, (hs m x' y' G' g1 hI).run _ E ((S'.set (s := .vl s x') (v := v1) (s.ext S'.nx.vx f3)).set (s := .vl t y') (v := v2) (t.ext S'.nx.vx f4)) tk
        ⟨fun S2 h2 => ⟨_, _, S2, h2⟩, fun n2 h2 => f.rt (n0.unbase n2) h2, fun S2 h2 => f.nx (S2.unbase n0) h2, fun S2 h2 => ⟨_, _, S2, h2⟩, fun n2 h2 => f.xc (n0.unbase n2) h2⟩⟩
    · rintro σ' H' ⟨M', G', S', hI⟩
      rw [e3.length] at hI
      exact f.nx (S'.unbase n0) (hd G' hI)⟩⟩
/-! ### fields -/
theorem e_fld {C : Addr} {fs : α → List (Str × Cl)} {nm : Str} {cl : Cl} (he : E X G a (tOb C fs) x) (hc : Cls X.K C) (hn : NoAttr X.K C nm) (hl : (fs x).lookup nm = some cl) (hb : attributeBase a nm X.env (eval a X.env) = eval a X.env := by rfl) : E X G (.Attribute a nm pos) cl.t cl.x := ⟨fun S Q k =>
  ⟨_, pe_fld pe_w hb, he.run S _ fun v M1 H1 n1 r1 => by
    obtain ⟨p, dx, vs, e1, e2, e3⟩ := r1
    obtain ⟨w, g1, g2⟩ := freps_lookup e3 hl
    exact ⟨p, C, dx, vs, w, e1, n1.sub _ _ e2, hc, hn, g1, k w M1 H1 n1 g2⟩⟩⟩
theorem lookup_putF_reps {K : Fg} {M : Hp} {f : Str} {v : V} {c : Cl} (h : c.t.rep K M v c.x) : ∀ {vs : List (Str × V)} {cs : List (Str × Cl)}, FReps K M vs cs → cs.lookup f = none → FReps K M (putF f v vs) (cs ++ [(f, c)])
  | _, _, .nil, _ => .cons h .nil
  | _, _, .cons (f := g) (v := u) (c := d) h' r, e => by
    by_cases z : f = g
    · subst z; simp [List.lookup] at e
    · have z' : (f == g) = false := by simpa using z
      simp only [List.lookup, z'] at e
      show FReps K M (if g = f then _ else _) _
      rw [if_neg (Ne.symm z)]
      exact .cons h' (lookup_putF_reps h r e)
/-- self.f = e, the first store to this field -/
theorem s_fldNew (m : Nat) {n : Str} {p1 p2 : Pos} {p dx C : Addr} {fs : List (Str × Cl)} {nm : Str} (h0 : G[m]? = some (.ob p dx C fs)) (he : E X G e s x) (hc : Cls X.K C) (hna : NoAttr X.K C nm) (hl : fs.lookup nm = none) (hz : fs.length < 1000) (h : R.nx (G.set m (.ob p dx C (fs ++ [(nm, ⟨s, x⟩)])))) (hi : X.N[m]? = some n := by rfl)
    (hv : Vis X.env.scope n := by first | exact Or.inl rfl | exact Or.inr (Or.inl rfl) | exact Or.inr (Or.inr rfl))
    (hd : (n == ("__debug__" : Str)) = false := by decide) (hcd : (n == ("__classdict__" : Str)) = false := by decide)
    (hs : swapsWith e (some (.Attribute (.Name n p1) nm p2)) pos.line X.env = pure false := by rfl) : S1 X G (.Assign [.Attribute (.Name n p1) nm p2] e pos) R := ⟨fun D E S tk f => by
  refine ⟨_, ps_fld (pe_var hi hv hd hcd) pe_w hs, he.run S _ fun v M1 H1 n1 r1 => ?_⟩
  obtain ⟨vs, e1, hh, hm, fr, upd'⟩ := (S.next n1).putOb (fs' := fs ++ [(nm, ⟨s, x⟩)]) h0
  exact ⟨.ref p, e1, p, C, dx, vs, rfl, hh, hc, hna, by rw [freps_len fr]; exact hz, f.nx (upd' _ (lookup_putF_reps (c := ⟨s, x⟩) r1 fr hl)) h⟩⟩
/-! ### __init__ and C(..) -/
/-- the promise of an __init__: it leaves an instance with these fields -/
def spI (K : Fg) (C : Addr) (ar : ι → List Sl) (pre : ι → Prop) (fs : ι → List (Str × Cl)) : Sp := fun vs H Q _ =>
  ∃ (i : ι) (M H1 : Hp) (x dx : Addr) (vs' : List V), vs = .ref x :: vs' ∧ Same M H1 ∧ H1 x = none ∧ H1 dx = none ∧ dx ≠ x ∧ H = upd (upd H1 dx (.own x)) x (.ins C dx []) ∧ Reps K M vs' (ar i) ∧ pre i ∧
    ∀ M' H' us, Nx M H1 M' H' → M' x = none → M' dx = none → H' x = some (.ins C dx us) → H' dx = some (.own x) → FReps K M' us (fs i) → Q .non H'
theorem e_make {P : Program} {w : World} {K : Fg} {mg : Str → Option Value} {base : Heap} {n : Str} {C f : Addr} {fd : FuncData} {ps : List Str} {ar : ι → List Sl} {pre : ι → Prop} {fs : ι → List (Str × Cl)} {p : Pos} (M : Mk K C f) (F : FnOk P w K mg base CX0 k f fd ps (spI K C ar pre fs)) (hr : Room (k + 1) X.A) (hm : mg n = some (.ref C)) (hb : Binds K fd ps []) (i : ι) (ha : EA X G (e :: es) (ar i)) (hp : pre i)
    (hg : Gl X n := by rfl) (hdb : (n == ("__debug__" : Str)) = false := by decide) (he : starEach (e :: es) X.env = (false, eval e X.env) :: starEach es X.env := by rfl) (hpl : (backTo pos (starEach es X.env)).any (·.1) = false := by rfl)
    (xP : X.prog = P := by rfl) (xw : X.w = w := by rfl) (xK : X.K = K := by rfl) (xm : X.mg = mg := by rfl) (xb : X.base = base := by rfl) : E X G (.Call (.Name n p) (e :: es) [] pos) (tOb C fs) i := ⟨fun S Q q => by
  subst xP xw xK xm xb
  exact ⟨_, pe_make M F hr hg hm hb .nil pass0 pa_w hdb he hpl, ha.run S _ fun vs M1 H1 n1 r1 => fun x dx hx hdx ne => by
    rw [List.append_nil]
    refine ⟨i, M1, H1, x, dx, vs, rfl, n1.sub, hx, hdx, ne, rfl, r1, hp, fun M' H' us n2 mx md hh hd fr => ⟨rfl, ?_⟩⟩
    refine q _ (upd M' x (.ins C dx us)) H' (n1.trans ⟨n2.ex, n2.vx.trans (same_new mx), fun b o e => ?_, fun b q1 q2 => ?_⟩) ⟨x, dx, us, rfl, upd_same, freps_ext (same_new mx) fr⟩
    · by_cases z : b = x
      · subst z; rw [upd_same] at e; cases e; exact hh
      · rw [upd_ne z] at e; exact n2.sub b o e
    · rw [upd_ne (fun z => q2 (by rw [z]; exact hx))]; exact n2.fr b q1 q2⟩⟩
/-- the state at an __init__'s entry -/
theorem st_startI {K : Fg} {M H1 : Hp} {C x dx : Addr} {vs : List V} {ss : List Sl} {N : List Str} {n : Nat} (m : Same M H1) (hx : H1 x = none) (hdx : H1 dx = none) (ne : dx ≠ x) (r : Reps K M vs ss) (hn : N.length = ss.length + 1 + n) :
    St K M H1 M (upd (upd H1 dx (.own x)) x (.ins C dx [])) (L2.start N (.ref x :: vs)) (.ob x dx C [] :: (ss ++ List.replicate n .un)) := by
  have hl := reps_len r
  have nx1 : Nx M H1 M (upd (upd H1 dx (.own x)) x (.ins C dx [])) := by
    have e1 := nx_lay (o := .own x) m hdx
    have e2 := nx_lay (o := .ins C dx []) e1.sub (p := x) (by rw [upd_ne ne.symm]; exact hx)
    exact ⟨e1.ex.trans e2.ex, Same.refl _, e2.sub, fun _ q _ => q⟩
  obtain ⟨N1, N2, hN⟩ : ∃ n1 N', N = n1 :: N' := by
    cases N with
    | nil => simp at hn; omega
    | cons a b => exact ⟨a, b, rfl⟩
  have S0 := (st_start (N := N2) (K := K) (n := n) m r (by rw [hN] at hn; simp at hn; omega)).next nx1
  obtain ⟨A, h1, h2⟩ := S0.sl
  have noown : ∀ (j : Nat) (t' : Sl), (ss ++ List.replicate n Sl.un)[j]? = some t' → t'.own = false := fun j t' e => by
    by_cases h : j < ss.length
    · rw [List.getElem?_append_left h] at e; exact reps_noown r e
    · rw [List.getElem?_append_right (Nat.le_of_not_lt h)] at e
      obtain ⟨l, e3⟩ := List.getElem?_eq_some_iff.mp e
      rw [List.getElem_replicate] at e3
      subst e3; rfl
  refine ⟨nx1, ?_, fun j => if j = 0 then [x] else A (j - 1), fun j u e => ?_, fun j l u v e1 e2 o1 o2 nn y hy => ?_⟩
  · unfold L2.start
    rw [hN]
    simp only [List.map_cons, List.length_append, List.length_cons, List.length_map, List.length_replicate]
    rw [hN] at hn; simp at hn; omega
  · cases j with
    | zero =>
      simp at e
      subst e
      exact ⟨some (.ref x), by unfold L2.start; rfl, rfl, rfl, hx, same_none m hx, [], upd_same, by rw [upd_ne ne, upd_same], hdx, same_none m hdx, .nil⟩
    | succ j =>
      have e' : (ss ++ List.replicate n Sl.un)[j]? = some u := by simpa using e
      obtain ⟨o, q1, q2⟩ := h1 j u e'
      refine ⟨o, ?_, ?_⟩
      · unfold L2.start at q1 ⊢
        rw [hN]
        simp only [List.map_cons, List.cons_append, List.length_cons, List.getElem?_cons_succ, Nat.add_sub_add_right]
        exact q1
      · show Ok1 K H1 M _ o (if j + 1 = 0 then [x] else A (j + 1 - 1)) u
        rw [if_neg (Nat.succ_ne_zero j)]
        exact q2
  · cases j with
    | zero =>
      cases l with
      | zero => exact absurd rfl nn
      | succ l => rw [noown l v (by simpa using e2)] at o2; cases o2
    | succ j => rw [noown j u (by simpa using e1)] at o1; cases o1
theorem fn_init {P : Program} {w : World} {K : Fg} {mg : Str → Option Value} {base : Heap} {x qual : Str} {st : Stmt} {f C : Addr} {fd : FuncData} {N ps : List Str} {k : Nat} {ar : ι → List Sl} {pre : ι → Prop} {fs : ι → List (Str × Cl)} (F : Fun K x qual st f fd) (S : FnScope N ps (defScope st)) (n : Nat)
    (hn : N.length = ps.length + n) (hl : ∀ i, (ar i).length + 1 = ps.length)
    (hb : ∀ (cdv : Value) (A : Around) (outer : List Env) (s : Shared) (H : Hp) (E : XK), Room k (A.deeper (envOfC qual (defScope st) s.heap.objs.size f cdv)) → ∀ i p dx, pre i →
      B (cxOf CX0 P w K mg base N qual (defScope st) f cdv A outer s H E).nox (.ob p dx C [] :: (ar i ++ List.replicate n .un)) (defBody st) { nx := fun G' => G'[0]? = some (.ob p dx C (fs i)), rt := fun _ _ => False }) : FnOk P w K mg base CX0 (k + 1) f fd ps (spI K C ar pre fs) := by
  refine F.ok S (fun vs H Q E h => ?_) (fun cdv A outer s H vs Q E hr h => ⟨_, pss_w, ?_⟩)
  · obtain ⟨i, M, H1, x, dx, vs', rfl, _, _, _, _, _, r, _⟩ := h
    rw [List.length_cons, reps_len r, hl]
  · obtain ⟨i, M, H1, x, dx, vs', rfl, m, hx, hdx, ne, rfl, r, hp, q⟩ := h
    refine (hb cdv A outer s _ E hr i x dx hp).run _ (fun _ _ _ => False) (st_startI m hx hdx ne r (by have := hl i; omega)) takes_false ⟨fun {M' H' σ' G'} S' h => ?_, fun n2 h => h.elim, fun _ h => h.elim, fun _ h => h.elim, fun _ h => h.elim⟩
    obtain ⟨us, e1, e2, e3, e4, e5, e6⟩ := S'.getOb h
    exact q _ _ us S'.nx e4 e5 e2 e3 e6
end
end TL

namespace TL
open PySem PySem.Spec PyProof.Rows L2
theorem kb_NoneType_int : kitB "NoneType" "int" = some false := by decide +kernel
theorem kb_NoneType_bool : kitB "NoneType" "bool" = some false := by decide +kernel
theorem kb_NoneType_str : kitB "NoneType" "str" = some false := by decide +kernel
theorem kb_NoneType_list : kitB "NoneType" "list" = some false := by decide +kernel
theorem kb_NoneType_tuple : kitB "NoneType" "tuple" = some false := by decide +kernel
theorem kb_bool_int : kitB "bool" "int" = some true := by decide +kernel
theorem kb_bool_bool : kitB "bool" "bool" = some true := by decide +kernel
theorem kb_bool_str : kitB "bool" "str" = some false := by decide +kernel
theorem kb_bool_list : kitB "bool" "list" = some false := by decide +kernel
theorem kb_bool_tuple : kitB "bool" "tuple" = some false := by decide +kernel
theorem kb_int_int : kitB "int" "int" = some true := by decide +kernel
theorem kb_int_bool : kitB "int" "bool" = some false := by decide +kernel
theorem kb_int_str : kitB "int" "str" = some false := by decide +kernel
theorem kb_int_list : kitB "int" "list" = some false := by decide +kernel
theorem kb_int_tuple : kitB "int" "tuple" = some false := by decide +kernel
theorem kb_str_int : kitB "str" "int" = some false := by decide +kernel
theorem kb_str_bool : kitB "str" "bool" = some false := by decide +kernel
theorem kb_str_str : kitB "str" "str" = some true := by decide +kernel
theorem kb_str_list : kitB "str" "list" = some false := by decide +kernel
theorem kb_str_tuple : kitB "str" "tuple" = some false := by decide +kernel
theorem kb_list_int : kitB "list" "int" = some false := by decide +kernel
theorem kb_list_bool : kitB "list" "bool" = some false := by decide +kernel
theorem kb_list_str : kitB "list" "str" = some false := by decide +kernel
theorem kb_list_list : kitB "list" "list" = some true := by decide +kernel
theorem kb_list_tuple : kitB "list" "tuple" = some false := by decide +kernel
theorem kb_tuple_int : kitB "tuple" "int" = some false := by decide +kernel
theorem kb_tuple_bool : kitB "tuple" "bool" = some false := by decide +kernel
theorem kb_tuple_str : kitB "tuple" "str" = some false := by decide +kernel
theorem kb_tuple_list : kitB "tuple" "list" = some false := by decide +kernel
theorem kb_tuple_tuple : kitB "tuple" "tuple" = some true := by decide +kernel
/-! ### data: what type it has -/
def tyN : PyData → String
  | .none => "NoneType"
  | .bool _ => "bool"
  | .int _ => "int"
  | .str _ => "str"
  | .list _ => "list"
  | .tuple _ => "tuple"
  | .dict _ => "dict"
def isID : PyData → Bool
  | .int _ => true
  | .bool _ => true
  | _ => false
theorem kbI : ∀ d : PyData, kitB (tyN d) "int" = some (isID d)
  | .none => (by decide +kernel : kitB "NoneType" "int" = some false)
  | .bool _ => (by decide +kernel : kitB "bool" "int" = some true)
  | .int _ => (by decide +kernel : kitB "int" "int" = some true)
  | .str _ => (by decide +kernel : kitB "str" "int" = some false)
  | .list _ => (by decide +kernel : kitB "list" "int" = some false)
  | .tuple _ => (by decide +kernel : kitB "tuple" "int" = some false)
  | .dict _ => (by decide +kernel : kitB "dict" "int" = some false)
def isBD : PyData → Bool
  | .bool _ => true
  | _ => false
theorem kbB : ∀ d : PyData, kitB (tyN d) "bool" = some (isBD d)
  | .none => (by decide +kernel : kitB "NoneType" "bool" = some false)
  | .bool _ => (by decide +kernel : kitB "bool" "bool" = some true)
  | .int _ => (by decide +kernel : kitB "int" "bool" = some false)
  | .str _ => (by decide +kernel : kitB "str" "bool" = some false)
  | .list _ => (by decide +kernel : kitB "list" "bool" = some false)
  | .tuple _ => (by decide +kernel : kitB "tuple" "bool" = some false)
  | .dict _ => (by decide +kernel : kitB "dict" "bool" = some false)
def isSD : PyData → Bool
  | .str _ => true
  | _ => false
theorem kbS : ∀ d : PyData, kitB (tyN d) "str" = some (isSD d)
  | .none => (by decide +kernel : kitB "NoneType" "str" = some false)
  | .bool _ => (by decide +kernel : kitB "bool" "str" = some false)
  | .int _ => (by decide +kernel : kitB "int" "str" = some false)
  | .str _ => (by decide +kernel : kitB "str" "str" = some true)
  | .list _ => (by decide +kernel : kitB "list" "str" = some false)
  | .tuple _ => (by decide +kernel : kitB "tuple" "str" = some false)
  | .dict _ => (by decide +kernel : kitB "dict" "str" = some false)
def isLD : PyData → Bool
  | .list _ => true
  | _ => false
theorem kbL : ∀ d : PyData, kitB (tyN d) "list" = some (isLD d)
  | .none => (by decide +kernel : kitB "NoneType" "list" = some false)
  | .bool _ => (by decide +kernel : kitB "bool" "list" = some false)
  | .int _ => (by decide +kernel : kitB "int" "list" = some false)
  | .str _ => (by decide +kernel : kitB "str" "list" = some false)
  | .list _ => (by decide +kernel : kitB "list" "list" = some true)
  | .tuple _ => (by decide +kernel : kitB "tuple" "list" = some false)
  | .dict _ => (by decide +kernel : kitB "dict" "list" = some false)
def isTD : PyData → Bool
  | .tuple _ => true
  | _ => false
theorem kbT : ∀ d : PyData, kitB (tyN d) "tuple" = some (isTD d)
  | .none => (by decide +kernel : kitB "NoneType" "tuple" = some false)
  | .bool _ => (by decide +kernel : kitB "bool" "tuple" = some false)
  | .int _ => (by decide +kernel : kitB "int" "tuple" = some false)
  | .str _ => (by decide +kernel : kitB "str" "tuple" = some false)
  | .list _ => (by decide +kernel : kitB "list" "tuple" = some false)
  | .tuple _ => (by decide +kernel : kitB "tuple" "tuple" = some true)
  | .dict _ => (by decide +kernel : kitB "dict" "tuple" = some false)
/-- an int that is no bool -/
def wholeD : PyData → Bool
  | .int _ => true
  | _ => false
theorem wholeD_eq (d : PyData) : wholeD d = (isID d && !isBD d) := by cases d <;> rfl
def spWhole (K : Fg) : Sp := spG K (fun d : PyData => [.vl tD d]) (fun _ => True) tB wholeD
theorem tyx_L {K : Fg} {M H : Hp} {a : Addr} {vs : List V} (m : Same M H) (h : SqL K M a vs) : TyX K H (.ref a) (.type "list") := by
  rcases h with (h | ⟨o, h⟩) | ⟨o, its, n, h1, h2, _⟩
  · exact .base (.lst (m _ _ h))
  · exact .base (.frz (m _ _ h))
  · exact .kList h1 h2
theorem tyx_T {K : Fg} {M H : Hp} {a : Addr} {vs : List V} (m : Same M H) (h : SqT K M a vs) : TyX K H (.ref a) (.type "tuple") := by
  rcases h with (h | ⟨o, h⟩) | ⟨o, its, n, h1, h2, _⟩
  · exact .base (.tup (m _ _ h))
  · exact .fTuple (m _ _ h)
  · exact .kTuple h1 h2
theorem tyx_D {K : Fg} {M H : Hp} {v : V} {d : PyData} (m : Same M H) (h : Dp K M v d) : TyX K H v (.type (tyN d)) := by
  cases h with
  | non => exact .base .non
  | bl b => exact .base (.bl b)
  | int i => exact .base (.int i)
  | str x => exact .base (.str x)
  | lst h1 h2 => exact tyx_L m h1
  | tup h1 h2 => exact tyx_T m h1
section
variable {α β γ ι ρ : Type} {X : Cx} {G : List Sl} {a b c e : Expr} {es : List Expr} {s : Ty α} {t : Ty β} {x : α} {y : β} {pos : Pos} {k : Nat}
theorem e_Tlist (b : X.mg "list" = none) (hg : Gl X "list" := by rfl) : E X G (.Name "list" pos) tC (.ty "list") := e_ty (nm := "list") b (by decide +kernel) hg
theorem e_Ttuple (b : X.mg "tuple" = none) (hg : Gl X "tuple" := by rfl) : E X G (.Name "tuple" pos) tC (.ty "tuple") := e_ty (nm := "tuple") b (by decide +kernel) hg
theorem e_Tint (b : X.mg "int" = none) (hg : Gl X "int" := by rfl) : E X G (.Name "int" pos) tC (.ty "int") := e_ty (nm := "int") b (by decide +kernel) hg
theorem e_Tbool (b : X.mg "bool" = none) (hg : Gl X "bool" := by rfl) : E X G (.Name "bool" pos) tC (.ty "bool") := e_ty (nm := "bool") b (by decide +kernel) hg
theorem e_Tstr (b : X.mg "str" = none) (hg : Gl X "str" := by rfl) : E X G (.Name "str" pos) tC (.ty "str") := e_ty (nm := "str") b (by decide +kernel) hg
/-- isinstance(x, T), T a built-in type, x data -/
theorem e_isD {p : Pos} {nm : String} {d : Bool} {dd : PyData} (hm : X.mg "isinstance" = none) (ha : E X G a s x) (hb : E X G b tC (.ty nm)) (ht : ∀ M v, s.rep X.K M v x → Dp X.K M v dd) (hk : kitB (tyN dd) nm = some d) (hg : Gl X "isinstance" := by rfl)
    (he : starEach [a, b] X.env = (false, eval a X.env) :: starEach [b] X.env := by rfl) (he2 : starEach [b] X.env = (false, eval b X.env) :: starEach [] X.env := by rfl) (hpl : (backTo pos (starEach [b] X.env)).any (·.1) = false := by rfl) : E X G (.Call (.Name "isinstance" p) [a, b] [] pos) tB d :=
  e_isi hm ha hb (fun M v r => ⟨.type (tyN dd), .type nm, .ty nm, fun H m => tyx_D m (ht M v r), kit_ty hk⟩) hg he he2 hpl
/-- isinstance(x, C), C a class of one's own, x data: no -/
theorem kit_own_no {K : Fg} {nm : String} {C : Addr} (h : PySem.W.kitOne K (.type nm) (.ref C) = some false) : PySem.W.kitOne K (.type nm) (.ref C) = some false := h
/-- isinstance(x, (A, B)), built-in types -/
theorem e_isD2 {p p1 : Pos} {n : Nat} {nm1 nm2 : String} {d1 d2 : Bool} {dd : PyData} (hm : X.mg "isinstance" = none) (ha : E X G a s x) (hb : E X G b tC (.ty nm1)) (hc : E X G c tC (.ty nm2)) (ht : ∀ M v, s.rep X.K M v x → Dp X.K M v dd) (hk1 : kitB (tyN dd) nm1 = some d1) (hk2 : kitB (tyN dd) nm2 = some d2) (hg : Gl X "isinstance" := by rfl)
    (he : starEach [a, .Tuple [b, c] n p1] X.env = (false, eval a X.env) :: starEach [.Tuple [b, c] n p1] X.env := by rfl) (he2 : starEach [.Tuple [b, c] n p1] X.env = (false, eval (.Tuple [b, c] n p1) X.env) :: starEach [] X.env := by rfl) (hpl : (backTo pos (starEach [.Tuple [b, c] n p1] X.env)).any (·.1) = false := by rfl)
    (hs : starEach [b, c] X.env = (false, eval b X.env) :: starEach [c] X.env := by rfl) (hs2 : starEach [c] X.env = (false, eval c X.env) :: starEach [] X.env := by rfl) : E X G (.Call (.Name "isinstance" p) [a, .Tuple [b, c] n p1] [] pos) tB (d1 || d2) := ⟨fun S Q k =>
  ⟨_, pe_callB call_isiT hg hm (by decide +kernel) (pa_cons pe_w (pa_cons (pe_tup (pa_cons pe_w (pa_cons pe_w pa_nil hs2) hs)) pa_nil he2) he) (by decide) (by decide) he hpl, ha.run S _ fun v M1 H1 n1 r1 => hb.run (S.next n1) _ fun w M2 H2 n2 r2 => hc.run (S.next (n1.trans n2)) _ fun w' M3 H3 n3 r3 => ⟨by show 2 ≤ sizeLine; decide, fun q hq => by
    have nn := Nx.new (o := .tup [w, w']) n3.sub hq
    refine ⟨v, q, [w, w'], .type (tyN dd), [.type nm1, .type nm2], d1 || d2, rfl, upd_same, ?_, tyx_D (((n2.vx.trans n3.vx).trans n3.sub).trans (same_new hq)) (ht M1 v r1), ?_, k _ _ _ (((n1.trans n2).trans n3).trans nn) rfl⟩
    · rw [show w = V.ty nm1 from r2, show w' = V.ty nm2 from r3]; exact .cons (.ty nm1) (.cons (.ty nm2) .nil)
    · refine kitAny_cons (kit_ty hk1) (fun h => ?_) (fun h => by rw [h]; rfl)
      refine kitAny_cons (kit_ty hk2) (fun h' => ?_) (fun h' => by rw [h']; simp)
      rw [h, h']; rfl⟩⟩⟩
end
/-! ### typed things as data -/
section
variable {K : Fg} {M : Hp} {v : V} {α : Type} {s : Ty α} {f : α → PyData}
theorem dp_I {i : Int} (h : tI.rep K M v i) : Dp K M v (.int i) := by rw [show v = V.int i from h]; exact .int i
theorem dp_B {i : Bool} (h : tB.rep K M v i) : Dp K M v (.bool i) := by rw [show v = V.bl i from h]; exact .bl i
theorem dp_S {i : Str} (h : tS.rep K M v i) : Dp K M v (.str i) := by rw [show v = V.str i from h]; exact .str i
theorem dp_N (h : tN.rep K M v ()) : Dp K M v .none := by rw [show v = V.non from h]; exact .non
theorem dp_all (hf : ∀ v x, s.rep K M v x → Dp K M v (f x)) : ∀ {vs : List V} {xs : List α}, Paired (s.rep K M) vs xs → DpAll K M vs (xs.map f)
  | _, _, .nil => .nil
  | _, _, .cons h t => .cons (hf _ _ h) (dp_all hf t)
theorem dp_T (hf : ∀ v x, s.rep K M v x → Dp K M v (f x)) {xs : List α} (h : (tTup s).rep K M v xs) : Dp K M v (.tuple (xs.map f)) := by
  obtain ⟨a, vs, rfl, h2, h3⟩ := h
  exact .tup h2 (dp_all hf h3)
theorem dp_L (hf : ∀ v x, s.rep K M v x → Dp K M v (f x)) {xs : List α} (h : (tLst s).rep K M v xs) : Dp K M v (.list (xs.map f)) := by
  obtain ⟨a, vs, rfl, h2, h3⟩ := h
  exact .lst (SqL.of h2) (dp_all hf h3)
theorem pd_I {i : Int} (h : Dp K M v (.int i)) : tI.rep K M v i := by cases h; rfl
theorem pd_all (hf : ∀ v x, Dp K M v (f x) → s.rep K M v x) : ∀ {vs : List V} {xs : List α}, DpAll K M vs (xs.map f) → Paired (s.rep K M) vs xs
  | _, [], h => by
    cases h; exact .nil
  | _, x :: xs, h => by
    cases h with
    | cons h t => exact .cons (hf _ _ h) (pd_all hf t)
theorem pd_T (hf : ∀ v x, Dp K M v (f x) → s.rep K M v x) {xs : List α} (h : Dp K M v (.tuple (xs.map f))) : (tTup s).rep K M v xs := by
  cases h with
  | tup h1 h2 => exact ⟨_, _, rfl, h1, pd_all hf h2⟩
/-- a row of ints, a table of ints as data -/
def dRow (xs : List Int) : PyData := .tuple (xs.map .int)
def dTab (xs : List (List Int)) : PyData := .tuple (xs.map dRow)
def dRowL (xs : List Int) : PyData := .list (xs.map .int)
def dTabL (xs : List (List Int)) : PyData := .list (xs.map dRowL)
theorem dp_row {xs : List Int} (h : (tTup tI).rep K M v xs) : Dp K M v (dRow xs) := dp_T (fun _ _ => dp_I) h
theorem dp_tab {xs : List (List Int)} (h : (tTup (tTup tI)).rep K M v xs) : Dp K M v (dTab xs) := dp_T (fun _ _ => dp_row) h
theorem dp_rowL {xs : List Int} (h : (tLst tI).rep K M v xs) : Dp K M v (dRowL xs) := dp_L (fun _ _ => dp_I) h
theorem dp_tabL {xs : List (List Int)} (h : (tLst (tLst tI)).rep K M v xs) : Dp K M v (dTabL xs) := dp_L (fun _ _ => dp_rowL) h
theorem pd_row {xs : List Int} (h : Dp K M v (dRow xs)) : (tTup tI).rep K M v xs := pd_T (fun _ _ => pd_I) h
theorem pd_tab {xs : List (List Int)} (h : Dp K M v (dTab xs)) : (tTup (tTup tI)).rep K M v xs := pd_T (fun _ _ => pd_row) h
end
/-! ### frozen -/
mutual
def frz : PyData → PyData
  | .list ds => .tuple (frzAll ds)
  | .tuple ds => .tuple (frzAll ds)
  | .none => .none
  | .bool b => .bool b
  | .int i => .int i
  | .str s => .str s
  | .dict kvs => .dict kvs
def frzAll : List PyData → List PyData
  | [] => []
  | d :: ds => frz d :: frzAll ds
end
theorem frzAll_map : ∀ ds : List PyData, frzAll ds = ds.map frz
  | [] => by rw [frzAll]; rfl
  | d :: ds => by rw [frzAll, frzAll_map ds]; rfl
/-- not deeper than n, no list too long -/
def Fit : Nat → PyData → Prop
  | n + 1, .list ds => ds.length ≤ 1000000 ∧ ∀ d ∈ ds, Fit n d
  | n + 1, .tuple ds => ds.length ≤ 1000000 ∧ ∀ d ∈ ds, Fit n d
  | 0, .list _ => False
  | 0, .tuple _ => False
  | _, .dict _ => False
  | _, _ => True
theorem frz_int (i : Int) : frz (.int i) = .int i := by rw [frz]
theorem frz_dRow (xs : List Int) : frz (dRow xs) = dRow xs := by
  unfold dRow; rw [frz, frzAll_map, List.map_map]; congr 1
theorem frz_dRowL (xs : List Int) : frz (dRowL xs) = dRow xs := by
  unfold dRow dRowL; rw [frz, frzAll_map, List.map_map]; congr 1
theorem frz_dTab (xs : List (List Int)) : frz (dTab xs) = dTab xs := by
  unfold dTab; rw [frz, frzAll_map, List.map_map]; congr 1
  exact List.map_congr_left (fun i _ => frz_dRow i)
theorem frz_dTabL (xs : List (List Int)) : frz (dTabL xs) = dTab xs := by
  unfold dTab dTabL; rw [frz, frzAll_map, List.map_map]; congr 1
  exact List.map_congr_left (fun i _ => frz_dRowL i)
theorem fit_row {n : Nat} {xs : List Int} (h : xs.length ≤ 1000000) : Fit (n + 1) (dRow xs) := ⟨by rw [List.length_map]; exact h, fun d hd => by
  obtain ⟨i, _, rfl⟩ := List.mem_map.mp hd
  cases n <;> trivial⟩
theorem fit_rowL {n : Nat} {xs : List Int} (h : xs.length ≤ 1000000) : Fit (n + 1) (dRowL xs) := ⟨by rw [List.length_map]; exact h, fun d hd => by
  obtain ⟨i, _, rfl⟩ := List.mem_map.mp hd
  cases n <;> trivial⟩
theorem fit_tab {n : Nat} {xs : List (List Int)} (h : xs.length ≤ 1000000) (h2 : ∀ x ∈ xs, x.length ≤ 1000000) : Fit (n + 2) (dTab xs) := ⟨by rw [List.length_map]; exact h, fun d hd => by
  obtain ⟨i, hi, rfl⟩ := List.mem_map.mp hd
  exact fit_row (h2 i hi)⟩
theorem fit_tabL {n : Nat} {xs : List (List Int)} (h : xs.length ≤ 1000000) (h2 : ∀ x ∈ xs, x.length ≤ 1000000) : Fit (n + 2) (dTabL xs) := ⟨by rw [List.length_map]; exact h, fun d hd => by
  obtain ⟨i, hi, rfl⟩ := List.mem_map.mp hd
  exact fit_rowL (h2 i hi)⟩
def spFz (K : Fg) (n : Nat) : Sp := spG K (fun d : PyData => [.vl tD d]) (fun d => Fit n d) tD frz
theorem rep_DL {K : Fg} {M : Hp} {v : V} {ds : List PyData} (h : Dp K M v (.list ds)) : ∃ a vs, v = .ref a ∧ SqL K M a vs ∧ Paired (tD.rep K M) vs ds := by
  cases h with
  | lst h1 h2 =>
    refine ⟨_, _, rfl, h1, ?_⟩
    have : ∀ {vs : List V} {ds : List PyData}, DpAll K M vs ds → Paired (tD.rep K M) vs ds := by
      intro vs ds
      induction ds generalizing vs with
      | nil => intro h; cases h; exact .nil
      | cons d ds ih => intro h; cases h with | cons a b => exact .cons a (ih b)
    exact this h2
theorem rep_DT {K : Fg} {M : Hp} {v : V} {ds : List PyData} (h : Dp K M v (.tuple ds)) : (tTup tD).rep K M v ds := by
  cases h with
  | tup h1 h2 =>
    refine ⟨_, _, rfl, h1, ?_⟩
    have : ∀ {vs : List V} {ds : List PyData}, DpAll K M vs ds → Paired (tD.rep K M) vs ds := by
      intro vs ds
      induction ds generalizing vs with
      | nil => intro h; cases h; exact .nil
      | cons d ds ih => intro h; cases h with | cons a b => exact .cons a (ih b)
    exact this h2
theorem dpAll_of {K : Fg} {M : Hp} : ∀ {vs : List V} {ds : List PyData}, Paired (tD.rep K M) vs ds → DpAll K M vs ds
  | _, _, .nil => .nil
  | _, _, .cons h t => .cons h (dpAll_of t)
theorem rep_TD {K : Fg} {M : Hp} {v : V} {ds : List PyData} (h : (tTup tD).rep K M v ds) : Dp K M v (.tuple ds) := by
  obtain ⟨a, vs, rfl, h1, h2⟩ := h
  exact .tup h1 (dpAll_of h2)
/-- no name of the module hides a built-in -/
structure Bi (mg : Str → Option Value) : Prop where
  len : mg "len" = none
  int : mg "int" = none
  min : mg "min" = none
  max : mg "max" = none
  range : mg "range" = none
  list : mg "list" = none
  tuple : mg "tuple" = none
  isinstance : mg "isinstance" = none
  str : mg "str" = none
  bool : mg "bool" = none
  sum : mg "sum" = none
  sorted : mg "sorted" = none
  repr : mg "repr" = none
  iter : mg "iter" = none
  enumerate : mg "enumerate" = none
  zip : mg "zip" = none
  reversed : mg "reversed" = none
  any : mg "any" = none
  all : mg "all" = none
  abs : mg "abs" = none
  set : mg "set" = none
  dict : mg "dict" = none
  ve : mg "ValueError" = none
theorem nt {b : Bool} (h : b = false) : ¬ b = true := by rw [h]; decide
theorem ret_is {α : Type} {s : Ty α} {x y : α} {K : Fg} {M : Hp} {v : V} (r : s.rep K M v x) (h : y = x) : s.rep K M v y := by rw [h]; exact r
end TL

namespace TL
open PySem PySem.Spec PyProof.Rows L2
/-! ### lists of lists of the frame's own -/
def cutv (M : Hp) (fp : List Addr) : Hp := fun b => if b ∈ fp then none else M b
theorem unview {M H M' H' : Hp} {fp : List Addr} (hf : ∀ x ∈ fp, M x = none ∧ ∃ vs, H x = some (.lst vs)) (n : Nx (upds M H fp) H M' H') (K : Fg) : Nx M H (cutv M' fp) H' ∧ TupS K M' (cutv M' fp) := by
  refine ⟨⟨n.ex, fun b o e => ?_, fun b o e => ?_, fun b n1 n2 => ?_⟩, fun b xs e => ?_⟩
  · unfold cutv
    by_cases z : b ∈ fp
    · rw [(hf b z).1] at e; cases e
    · rw [if_neg z]
      exact n.vx b o (by unfold upds; rw [if_neg z]; exact e)
  · unfold cutv at e
    by_cases z : b ∈ fp
    · rw [if_pos z] at e; cases e
    · rw [if_neg z] at e; exact n.sub b o e
  · unfold cutv
    by_cases z : b ∈ fp
    · rw [if_pos z]
    · rw [if_neg z]; exact n.fr b (by unfold upds; rw [if_neg z]; exact n1) n2
  · have at' : ∀ b ∈ fp, ∃ vs, M' b = some (.lst vs) := fun b z => by
      obtain ⟨_, vs, hv⟩ := hf b z
      exact ⟨vs, n.vx b _ (by unfold upds; rw [if_pos z]; exact hv)⟩
    rcases e with e | e
    · have z : b ∉ fp := fun z => by
        obtain ⟨vs, hv⟩ := at' b z
        rcases e with e | ⟨o, e⟩
        · rw [hv] at e; cases e
        · rw [hv] at e; cases e
      refine .inl ?_
      rcases e with e | ⟨o, e⟩
      · exact .inl (by unfold cutv; rw [if_neg z]; exact e)
      · exact .inr ⟨o, by unfold cutv; rw [if_neg z]; exact e⟩
    · exact .inr e
/-- a slot is forgotten, whatever its value -/
theorem St.setAny {K : Fg} {M0 H0 M H : Hp} {σ : L2.St} {G : List Sl} (S : St K M0 H0 M H σ G) (i : Nat) (o : Option V) : St K M0 H0 M H (σ.set i o) (G.set i .un) :=
  S.change (fp := []) S.nx (fun h => by cases h) (fun _ _ _ _ _ _ _ _ r => r) trivial
section
variable {α β γ ι ρ : Type} {X : Cx} {G : List Sl} {a b c e : Expr} {es : List Expr} {st : Stmt} {rest th el body : List Stmt} {s : Ty α} {t : Ty β} {u : Ty γ} {x : α} {y : β} {z : γ} {pos : Pos} {i j : Int} {xs ys : List α} {p q : Bool} {R : Out} {k : Nat} {scope : Scope} {own : List (Str × Nat)} {n : Str} {pn : Pos}
theorem e_read2 (m : Nat) {s : Ty α} {xss : List (List α)} (h : G[m]? = some (.o2 s xss)) (hi : Imm X.K t) (he : E X (G.set m (.vl (tLst (tLst s)) xss)) e t y) : E X G e t y := ⟨fun {M0 H0 M H σ} S Q q => by
  obtain ⟨fp, hf, S'⟩ := S.freeze2 h
  refine he.run S' _ fun v M' H' n r => ?_
  obtain ⟨n', ts⟩ := unview (fun x hx => ⟨(hf x hx).1, (hf x hx).2.2⟩) n X.K
  exact q v _ H' n' (hi _ _ _ _ ts r)⟩
theorem t_read2 (m : Nat) {s : Ty α} {xss : List (List α)} {d : Bool} (h : G[m]? = some (.o2 s xss)) (he : T X (G.set m (.vl (tLst (tLst s)) xss)) e d) : T X G e d := ⟨fun {M0 H0 M H σ} S Q q => by
  obtain ⟨fp, hf, S'⟩ := S.freeze2 h
  refine he.run S' _ fun M' H' n => ?_
  obtain ⟨n', ts⟩ := unview (fun x hx => ⟨(hf x hx).1, (hf x hx).2.2⟩) n X.K
  exact q _ H' n'⟩
theorem b_freeze2 (m : Nat) {s : Ty α} {xss : List (List α)} (h : G[m]? = some (.o2 s xss)) (hb : B X (G.set m (.vl (tLst (tLst s)) xss)) rest R) : B X G rest R := ⟨fun D E S tk f => by
  obtain ⟨fp, _, S'⟩ := S.freeze2 h
  exact hb.run D E S' tk f⟩
theorem nodup_set : ∀ {bs : List Addr} (l : Nat) {p : Addr}, bs.Nodup → p ∉ bs → (bs.set l p).Nodup ∧ ∀ x ∈ bs.set l p, x = p ∨ x ∈ bs
  | [], _, _, h, _ => ⟨by simp, fun x hx => by simp at hx⟩
  | b :: bs, 0, p, h, hp => by
    rw [List.set_cons_zero]
    refine ⟨List.nodup_cons.mpr ⟨fun z => hp (by simp [z]), (List.nodup_cons.mp h).2⟩, fun x hx => ?_⟩
    rcases List.mem_cons.mp hx with z | z
    · exact .inl z
    · exact .inr (by simp [z])
  | b :: bs, l + 1, p, h, hp => by
    rw [List.set_cons_succ]
    obtain ⟨h1, h2⟩ := nodup_set (bs := bs) l (List.nodup_cons.mp h).2 (fun z => hp (List.mem_cons_of_mem _ z))
    refine ⟨List.nodup_cons.mpr ⟨fun z => ?_, h1⟩, fun x hx => ?_⟩
    · rcases h2 b z with z | z
      · exact hp (by rw [z]; simp)
      · exact (List.nodup_cons.mp h).1 z
    · rcases List.mem_cons.mp hx with z | z
      · exact .inr (by simp [z])
      · rcases h2 x z with z | z
        · exact .inl z
        · exact .inr (by simp [z])
/-- name[ib] = [..] -/
theorem s_set2 (m : Nat) {n : Str} {p1 : Pos} {ib : Expr} {l : Nat} {xss : List (List α)} {xs : List α} (h0 : G[m]? = some (.o2 s xss)) (he : EL X G e s xs) (hib : E X G ib tI i) (hm : ixN xss.length i = some l) (h : R.nx (G.set m (.o2 s (xss.set l xs)))) (hi : X.N[m]? = some n := by rfl)
    (hv : Vis X.env.scope n := by first | exact Or.inl rfl | exact Or.inr (Or.inl rfl) | exact Or.inr (Or.inr rfl))
    (hd : (n == ("__debug__" : Str)) = false := by decide) (hcd : (n == ("__classdict__" : Str)) = false := by decide) {p2 : Pos}
    (ha : ∀ v, assign (.Subscript (.Name n p1) ib p2) X.env v = (do
      let ov ← holding [v] (eval (.Name n p1) X.env)
      let iv ← holding [v, ov] (eval ib X.env)
      standAt p2
      holding [v, ov, iv] (setItem ov iv v)
      release [v, ov, iv] []) := by intro _; rfl)
    (hs : swapsWithSole [.Subscript (.Name n p1) ib p2] e pos.line X.env = pure false := by rfl) (hw : swappedStores [.Subscript (.Name n p1) ib p2] e X.env = pure none := by rfl)
    (h1 : (assignEach [.Subscript (.Name n p1) ib p2] X.env).map (·.2) = [assign (.Subscript (.Name n p1) ib p2) X.env] := by rfl) :
    S1 X G (.Assign [.Subscript (.Name n p1) ib p2] e pos) R := ⟨fun {M0 H0 M H σ} D E S tk f => by
  refine ⟨_, ps_asg pe_w (pg_sub (pe_var hi hv hd hcd) pe_w set_list ha) hs hw h1, ?_⟩
  refine he.run S _ fun p M1 H1 vs n1 hp mp hh r1 => ?_
  have key : ∀ M2 H2, Nx M1 H1 M2 H2 → ∃ (a : Addr) (bs : List Addr), σ[m]? = some (some (.ref a)) ∧ H2 a = some (.lst (bs.map V.ref)) ∧ bs.length = xss.length ∧ St X.K M0 H0 M2 (upd H2 a (.lst ((bs.set l p).map V.ref))) σ (G.set m (.o2 s (xss.set l xs))) := fun M2 H2 n2 =>
    S.new2 (cs := fun bs => bs.set l p) (yss := xss.set l xs) h0 (n1.trans n2) hp (n2.fr p mp (by rw [hh]; simp)) (n2.ex _ _ hh) (paired_imp (fun _ _ q => s.ext n2.vx q) r1) (fun bs _ nd pb => nodup_set l nd pb) (fun f1 pr => paired_set f1 l pr)
  obtain ⟨a0, bs0, e0, _⟩ := key M1 H1 (Nx.refl n1.sub)
  refine ⟨.ref a0, e0, hib.run (S.next n1) _ fun w M2 H2 n2 r2 => ?_⟩
  obtain ⟨a, bs, e1, hh2, hl, S'⟩ := key M2 H2 n2
  rw [e0] at e1; cases e1
  refine ⟨a0, _, i, l, rfl, r2, hh2, by rw [List.length_map, hl]; exact hm, ?_⟩
  rw [List.map_set] at S'
  exact f.nx S' h⟩
/-- line = name[i]; line[j] = e: an item of an item is exchanged -/
theorem b_alias (m m2 : Nat) {n n2 : Str} {q1 q2 q3 q4 q5 ps1 ps2 : Pos} {ib jb : Expr} {l r : Nat} {i j : Int} {xss : List (List α)} {xs : List α} (h0 : G[m]? = some (.o2 s xss)) (hne : m ≠ m2) (hib : E X G ib tI i) (hl : ixN xss.length i = some l) (hxs : xss[l]? = some xs)
    (he : E X ((G.set m (.vl (tLst (tLst s)) xss)).set m2 (.vl (tLst s) xs)) e s x) (hei : Imm X.K s) (hjb : E X (G.set m2 .un) jb tI j) (hr : ixN xs.length j = some r) (h : B X ((G.set m (.o2 s (xss.set l (xs.set r x)))).set m2 .un) rest R) (hml : (G[m2]?).isSome = true := by rfl)
    (hN : X.N.Nodup) (hi : X.N[m]? = some n := by rfl) (hi2 : X.N[m2]? = some n2 := by rfl) (hx2 : Loc X.env.scope n2 := by first | exact Or.inl rfl | exact Or.inr rfl) (hf2 : X.fn n2 = true ∨ X.env.scope.names.lookup n2 = some .local := by first | exact .inl rfl | exact .inr rfl)
    (hv : Vis X.env.scope n := by first | exact Or.inl rfl | exact Or.inr (Or.inl rfl) | exact Or.inr (Or.inr rfl)) (hv2 : Vis X.env.scope n2 := by first | exact Or.inl rfl | exact Or.inr (Or.inl rfl) | exact Or.inr (Or.inr rfl))
    (hd : (n == ("__debug__" : Str)) = false := by decide) (hcd : (n == ("__classdict__" : Str)) = false := by decide) (hd2 : (n2 == ("__debug__" : Str)) = false := by decide) (hcd2 : (n2 == ("__classdict__" : Str)) = false := by decide)
    (hsl : PlainIx ib := by exact fun _ _ => rfl) (hs1 : swapsWith (.Subscript (.Name n q1) ib q2) (some (.Name n2 q3)) ps1.line X.env = pure false := by rfl)
    (ha : ∀ v, assign (.Subscript (.Name n2 q4) jb q5) X.env v = (do
      let ov ← holding [v] (eval (.Name n2 q4) X.env)
      let iv ← holding [v, ov] (eval jb X.env)
      standAt q5
      holding [v, ov, iv] (setItem ov iv v)
      release [v, ov, iv] []) := by intro _; rfl)
    (hs : swapsWithSole [.Subscript (.Name n2 q4) jb q5] e ps2.line X.env = pure false := by rfl) (hw : swappedStores [.Subscript (.Name n2 q4) jb q5] e X.env = pure none := by rfl)
    (h1 : (assignEach [.Subscript (.Name n2 q4) jb q5] X.env).map (·.2) = [assign (.Subscript (.Name n2 q4) jb q5) X.env] := by rfl) :
    B X G (.Assign [.Name n2 q3] (.Subscript (.Name n q1) ib q2) ps1 :: .Assign [.Subscript (.Name n2 q4) jb q5] e ps2 :: rest) R := ⟨fun {M0 H0 M H σ} D E S tk f => by
  refine ⟨_, pss_cons (ps_set hN hi2 hx2 (pe_ix ix_list (pe_var hi hv hd hcd) pe_w hsl) hs1 hf2) (pss_cons (ps_asg pe_w (pg_sub (pe_var hi2 hv2 hd2 hcd2) pe_w set_list ha) hs hw h1) pss_w), ?_⟩
  obtain ⟨a0, bs0, b0, vs0, e0, _⟩ := S.put2 (ys := xs) h0 hxs
  refine ⟨.ref a0, e0, hib.run S _ fun w M1 H1 n1 r1 => ?_⟩
  obtain ⟨a, bs, b, vs, e1, ha1, hbl, hb1, hb, hbm, pr, _⟩ := (S.next n1).put2 (ys := xs) h0 hxs
  rw [e0] at e1; cases e1
  have hat : atI (bs.map V.ref) i = some (.ref b) := by
    unfold atI
    rw [List.length_map, hbl, hl]
    show (bs.map V.ref)[l]? = _
    rw [List.getElem?_map, hb1]; rfl
  refine ⟨a0, _, i, .ref b, rfl, r1, SqL.of ha1, hat, ?_⟩
  -- e is read while all is frozen
  have S1 := S.next n1
  obtain ⟨fp, hf, Sf⟩ := S1.freeze2 h0
  obtain ⟨vt, evt, ta, tvs, te1, te2, te3⟩ := Sf.get (t := tLst (tLst s)) (x := xss) (i := m) (by rw [List.getElem?_set_self (List.getElem?_eq_some_iff.mp h0).1])
  rw [e0] at evt; cases evt
  cases te1
  have tvs' : tvs = bs.map V.ref := by
    have := Sf.sub _ _ te2
    rw [ha1] at this; injection this with this; injection this with this; exact this.symm
  subst tvs'
  obtain ⟨vb, evb, rb⟩ := paired_get te3 hxs
  rw [List.getElem?_map, hb1] at evb
  cases evb
  refine he.run (Sf.set (s := .vl (tLst s) xs) (i := m2) (v := .ref b) rb) _ fun v M2 H2 n2 r2 => ?_
  obtain ⟨n2', ts⟩ := unview (fun x hx => ⟨(hf x hx).1, (hf x hx).2.2⟩) n2 X.K
  have r2' := hei _ _ _ _ ts r2
  have m2l : m2 < σ.length := by
    rw [S.len]
    exact (List.getElem?_eq_some_iff.mp (Option.isSome_iff_exists.mp hml).choose_spec).1
  have S2 := (S1.next n2').setAny m2 (some (.ref b))
  refine ⟨.ref b, List.getElem?_set_self m2l, hjb.run S2 _ fun w3 M3 H3 n3 r3 => ?_⟩
  obtain ⟨a3, bs3, b3, vs3, e3, ha3, hbl3, hb3, hv3, hm3, pr3, S3⟩ := (S1.next (n2'.trans n3)).put2 (ys := xs.set r x) h0 hxs
  rw [e0] at e3; cases e3
  have ebs : bs = bs3 := by
    have q1 := (n2'.ex.trans n3.ex) _ _ ha1
    rw [ha3] at q1
    injection q1 with q1; injection q1 with q1
    exact (refs_inj q1).symm
  subst ebs
  rw [hb1] at hb3; cases hb3
  have S4 := (S3 (vs3.set r v) (paired_set (s.ext n3.vx r2') r pr3)).setAny m2 (some (.ref b))
  exact ⟨b, vs3, j, r, rfl, r3, hv3, by rw [pr3.length]; exact hr, h.run D E S4 tk f⟩⟩
/-- behind m turns: the list at D holds new lists -/
def LcI2 (K : Fg) (t : Ty β) (M1 H1 : Hp) (D : Addr) (yss : List (List β)) (H : Hp) : Prop := ∃ (M : Hp) (bs : List Addr), Nx M1 H1 M H ∧ M D = none ∧ H D = some (.lst (bs.map V.ref)) ∧ D ∉ bs ∧ bs.Nodup ∧ (∀ x ∈ bs, H1 x = none) ∧ Paired (fun b ys => M b = none ∧ ∃ vs, H b = some (.lst vs) ∧ Paired (t.rep K M) vs ys) bs yss
theorem paired_mem {α β : Type} {F G : α → β → Prop} : ∀ {l₁ : List α} {l₂ : List β}, Paired F l₁ l₂ → (∀ a b, a ∈ l₁ → F a b → G a b) → Paired G l₁ l₂
  | _, _, .nil, _ => .nil
  | _, _, .cons h t, f => .cons (f _ _ (by simp) h) (paired_mem t fun a b ha => f a b (by simp [ha]))
theorem lcI2_turn {X X' : Cx} {G : List Sl} {e : Expr} {t : Ty β} {ys : List β} {M0 H0 M1 H1 H : Hp} {D : Addr} {yss : List (List β)} {σ : L2.St} (hK : X'.K = X.K) (hD : H1 D = none) (hI : LcI2 X.K t M1 H1 D yss H) (hz : yss.length < 1000000)
    (S : ∀ M, Nx M1 H1 M H → St X'.K M0 H0 M H σ G) (he : EL X' G e t ys) : wE X' e σ H fun v H4 => ∃ acc, H4 D = some (.lst acc) ∧ acc.length < sizeLine ∧ LcI2 X.K t M1 H1 D (yss ++ [ys]) (upd H4 D (.lst (acc ++ [v]))) := by
  obtain ⟨M, bs, n, hm, hh, hDb, nd, hf, pr⟩ := hI
  refine he.run (S M n) _ fun p M' H' vs n' hp mp hv r => ?_
  have h4 := n'.ex _ _ hh
  have mD : M' D = none := n'.fr D hm (by rw [hh]; simp)
  have nn := n.trans n'
  have pD : p ≠ D := fun z => by rw [z, hh] at hp; cases hp
  have pb : p ∉ bs := fun z => by
    obtain ⟨k, hk⟩ := List.getElem?_of_mem z
    obtain ⟨_, _, _, us, hu, _⟩ := paired_get' pr hk
    rw [hp] at hu; cases hu
  refine ⟨bs.map V.ref, h4, by rw [List.length_map, pr.length]; exact Nat.lt_of_lt_of_le hz (by decide), M', bs ++ [p], ⟨fun b o q => ?_, nn.vx, fun b o q => ?_, nn.fr⟩, mD, ?_, ?_, ?_, ?_, paired_app ?_ (.cons ⟨mp, vs, by rw [upd_ne pD]; exact hv, by rw [← hK]; exact r⟩ .nil)⟩
  · rw [upd_ne (ne_of_none q hD)]; exact nn.ex b o q
  · rw [upd_ne (ne_of_none q mD)]; exact nn.sub b o q
  · rw [upd_same, List.map_append]; rfl
  · intro z
    rcases List.mem_append.mp z with z | z
    · exact hDb z
    · exact pD (List.mem_singleton.mp z).symm
  · refine List.nodup_append.mpr ⟨nd, by simp, fun x hx y hy z => pb ?_⟩
    rw [← List.mem_singleton.mp hy, ← z]; exact hx
  · intro x hx
    rcases List.mem_append.mp hx with z | z
    · exact hf x z
    · rw [List.mem_singleton.mp z]; exact n.ex.free hp
  · refine paired_mem pr fun b xs hb ⟨q1, us, q2, q3⟩ => ⟨n'.fr b q1 (by rw [q2]; simp), us, ?_, paired_imp (fun _ _ q => t.ext n'.vx q) q3⟩
    rw [upd_ne (fun z => hDb (by rw [← z]; exact hb))]; exact n'.ex _ _ q2
theorem lcI2_start {K : Fg} {t : Ty β} {M1 H1 : Hp} {D : Addr} (m : Same M1 H1) (hD : H1 D = none) : LcI2 K t M1 H1 D [] (upd H1 D (.lst [])) :=
  ⟨M1, [], nx_lay m hD, same_none m hD, upd_same, by simp, by simp, by simp, .nil⟩
/-- name = [new list for x in tuple] -/
theorem s_lc2T {f : α → List β} {xs : List α} {nm : Str} {py pos' : Pos} (k i : Nat) (he : E X G a (tTup s) xs)
    (hel : ∀ (s0 : Shared) (H : Hp) (C : Addr) (cl : List (Str × Addr)) (fp : List Addr) (m : Nat) (x : α), xs[m]? = some x → EL (X.blk s0 H scope (compEnvC scope cl C X.env) fp) ((wipeG G (own.map (·.2))).set i (.vl s x)) e t (f x))
    (ok : BlkOk X.N X.env.scope scope own) (hz : xs.length ≤ 1000000)
    (hg : ∀ (s0 : Shared) (H : Hp) (C : Addr) (cl : List (Str × Addr)) (fp : List Addr), PG (X.blk s0 H scope (compEnvC scope cl C X.env) fp) (.Name n pn) (gName i)) (hnx : R.nx (G.set k (.o2 t (xs.map f)))) (hcm : X.calm = true) (hN : X.N.Nodup) (hio : i ∈ own.map (·.2) := by decide) (hi : X.N[k]? = some nm := by rfl)
    (hy : X.env.scope.names.lookup nm = some .local := by rfl) (hsw : swapsWith (.ListComp e [⟨.Name n pn, a, [], 0⟩] scope pos) (some (.Name nm py)) pos'.line X.env = pure true := by first | exact sw_true rfl rfl rfl (by decide +kernel) | rfl)
    (hs : ∀ x, foldedSetIterable a X.env x = pure x := by intro _; rfl) : S1 X G (.Assign [.Name nm py] (.ListComp e [⟨.Name n pn, a, [], 0⟩] scope pos) pos') R := ⟨fun {M0 H0 M H σ} D0 E S tk ff => by
  refine ⟨_, ps_setLc hcm hN hi hy hsw (pi_tup pe_w) ok hg (fun _ _ _ _ _ => pts_nil) (te := wBlk X scope e) (fun s0 H C cl fp => pe_blk s0 H C cl fp) hs, ?_⟩
  refine he.run S _ fun v M1 H1 n1 r1 => ?_
  obtain ⟨p, vs, e1, e2, e3⟩ := r1
  refine ⟨p, e1, ⟨vs, sqT_ext n1.sub e2⟩, fun D hD => lc_tup (K := X.K) (a := p) (xs := vs) (fun m H' => LcI2 X.K t M1 H1 D ((xs.take m).map f) H') (lcI2_start n1.sub hD) (fun m H' _ ⟨M', _, n', _⟩ => sqT_ext (n'.vx.trans n'.sub) e2) ?_ ?_⟩
  · intro m w H' hm hI
    obtain ⟨x', g1, g2⟩ := paired_get' e3 hm
    refine ⟨wiped hio, fun s0 H2 C cl fp => ?_⟩
    rw [take_snoc g1, List.map_append]
    have hl : ((xs.take m).map f).length < 1000000 := by
      have := (List.getElem?_eq_some_iff.mp g1).1
      rw [List.length_map, List.length_take]; omega
    exact lcI2_turn (X := X) rfl hD hI hl (fun M' n' => St.block (S.next n1) n' _ i g2) (hel s0 H2 C cl fp m x' g1)
  · rintro H' ⟨M', bs, n', mD, hh, hDb, nd, hf, pr⟩
    rw [e3.length, List.take_length] at pr
    exact ff.nx (S.setOwn2 (n1.trans n') (n1.ex.free hD) mD hh (fun x hx => n1.ex.free (hf x hx)) hDb nd pr) hnx⟩
end
end TL

namespace TL
open PySem PySem.Spec PyProof.Rows L2
theorem repsExt {K : Fg} {M M' : Hp} (e : Same M M') : ∀ {vs : List V} {ss : List Sl}, Reps K M vs ss → Reps K M' vs ss
  | _, _, .nil => .nil
  | _, _, .cons (t := t) h r => .cons (t.ext e h) (repsExt e r)
theorem repsApp {K : Fg} {M : Hp} : ∀ {vs ws : List V} {ss ts : List Sl}, Reps K M vs ss → Reps K M ws ts → Reps K M (vs ++ ws) (ss ++ ts)
  | _, _, _, _, .nil, r => r
  | _, _, _, _, .cons h r, q => .cons h (repsApp r q)
theorem paired_nil_r {α β : Type} {F : α → β → Prop} {xs : List α} (h : Paired F xs []) : xs = [] := List.eq_nil_of_length_eq_zero h.length
section
variable {α β γ ι ρ : Type} {X : Cx} {G : List Sl} {a b c e : Expr} {es rest : List Expr} {s : Ty α} {t : Ty β} {u : Ty γ} {x : α} {y : β} {z : γ} {pos : Pos} {k : Nat}
/-- t + u, of any length -/
theorem e_catA {xs ys : List α} (ha : E X G a (tTup s) xs) (hb : E X G b (tTup s) ys) (hz : xs.length + ys.length ≤ 1000000) : E X G (.BinOp a .Add b pos) (tTup s) (xs ++ ys) := e_op2 op_catA ha hb fun M H v w Q m h1 h2 k => by
  obtain ⟨p, vs, e1, e2, e3⟩ := h1
  obtain ⟨q, ws, f1, f2, f3⟩ := h2
  have l1 := e3.length
  have l2 := f3.length
  refine ⟨p, q, vs, ws, e1, f1, sqT_ext m e2, sqT_ext m f2, by rw [l1, l2]; exact Nat.le_trans hz (by decide), fun z => ?_, fun _ z => ?_, fun _ _ r hr => ?_⟩
  · have : xs = [] := by rw [z] at l1; exact List.eq_nil_of_length_eq_zero l1.symm
    rw [this, List.nil_append] at k
    exact k _ M H (Nx.refl m) ⟨q, ws, rfl, f2, f3⟩
  · have : ys = [] := by rw [z] at l2; exact List.eq_nil_of_length_eq_zero l2.symm
    rw [this, List.append_nil] at k
    exact k _ M H (Nx.refl m) ⟨p, vs, rfl, e2, e3⟩
  · exact k _ _ _ (Nx.new m hr) ⟨r, _, rfl, .inl (.inl upd_same), paired_imp (fun _ _ q => s.ext (same_new (same_none m hr)) q) (paired_app e3 f3)⟩
/-! ### keyword-only parameters -/
def wK (X : Cx) (kws : List Keyword) : TA := fun σ H Q => ∃ t, PK X kws t ∧ t σ H Q
theorem pk_w {X : Cx} {kws : List Keyword} : PK X kws (wK X kws) := ⟨fun pos pins s σ H Q I ⟨_, p, h⟩ => p.run pos pins s σ H Q I h⟩
structure EK (X : Cx) (G : List Sl) (es : List Keyword) (ss : List Sl) : Prop where
  run : ∀ {M0 H0 M H : Hp} {σ : L2.St}, St X.K M0 H0 M H σ G → ∀ (Q : List V → Hp → Prop), (∀ vs M' H', Nx M H M' H' → Reps X.K M' vs ss → Q vs H') → wK X es σ H Q
theorem ek_nil : EK X G [] [] := ⟨fun S Q k => ⟨_, pk_nil, k _ _ _ (Nx.refl S.sub) .nil⟩⟩
theorem ek_cons {kws : List Keyword} {ss : List Sl} {nm : Option Str} {kp : Pos} (h : E X G a s x) (hr : EK X G kws ss) : EK X G (⟨nm, a, kp⟩ :: kws) (.vl s x :: ss) := ⟨fun S Q k =>
  ⟨_, pk_cons pe_w pk_w, h.run S _ fun v M1 H1 n1 r1 => hr.run (S.next n1) _ fun vs M2 H2 n2 r2 => k _ M2 H2 (n1.trans n2) (.cons (s.ext n2.vx r1) r2)⟩⟩
/-- a def with keyword-only parameters, as its callers know it -/
structure FnD (P : Program) (w : World) (K : Fg) (mg : Str → Option Value) (base : Heap) (CX : CXT) (k : Nat) (name : Str) (ps : List Str) (n : Nat) (ks : List Str) (dvs : List V) (sp : Sp) : Prop where
  ex : ∃ f fd, mg name = some (.ref f) ∧ PySem.W.keepIn K (.ref f) = true ∧ (∃ ds, Vals dvs ds ∧ Binds K fd ps ds) ∧ KBn K fd ps n ks (fun us ws => us ++ ws) (fun vs zs => vs ++ zs) ∧ FnOk P w K mg base CX k f fd ps sp
theorem e_callD {P : Program} {w : World} {K : Fg} {mg : Str → Option Value} {base : Heap} {n : Str} {ps ks : List Str} {nn : Nat} {dvs : List V} {ar : ι → List Sl} {pre : ι → Prop} {tr : Ty ρ} {out : ι → ρ} {p : Pos} {as ds : List Sl} (C : FnD P w K mg base CX0 k n ps nn ks dvs (spG K ar pre tr out)) (hr : Room k X.A) (i : ι) (ha : EA X G (e :: es) as) (hd : ∀ M, Reps K M dvs ds) (har : ar i = as ++ ds) (hp : pre i)
    (hg : Gl X n := by rfl) (hdb : (n == ("__debug__" : Str)) = false := by decide) (he : starEach (e :: es) X.env = (false, eval e X.env) :: starEach es X.env := by rfl) (hpl : (backTo pos (starEach es X.env)).any (·.1) = false := by rfl)
    (xP : X.prog = P := by rfl) (xw : X.w = w := by rfl) (xK : X.K = K := by rfl) (xm : X.mg = mg := by rfl) (xb : X.base = base := by rfl) : E X G (.Call (.Name n p) (e :: es) [] pos) tr (out i) := ⟨fun S Q q => by
  subst xP xw xK xm xb
  obtain ⟨f, fd, hm, hk, ⟨dz, hv, hb⟩, _, F⟩ := C.ex
  refine ⟨_, pe_call F hr hg hm hk hb hv pass0 pa_w hdb he hpl, ha.run S _ fun vs M1 H1 n1 r1 => ?_⟩
  exact ⟨i, M1, n1.sub, by rw [har]; exact repsApp r1 (hd M1), hp, fun v M2 H2 n2 r2 => q v M2 H2 (n1.trans n2) r2⟩⟩
theorem e_callK {P : Program} {w : World} {K : Fg} {mg : Str → Option Value} {base : Heap} {n : Str} {ps ks : List Str} {nn : Nat} {dvs : List V} {ar : ι → List Sl} {pre : ι → Prop} {tr : Ty ρ} {out : ι → ρ} {p : Pos} {as bs : List Sl} {kws : List Keyword} (C : FnD P w K mg base CX0 k n ps nn ks dvs (spG K ar pre tr out)) (hr : Room k X.A) (i : ι) (ha : EA X G (e :: es) as) (hkw : EK X G kws bs) (har : ar i = as ++ bs) (l1 : as.length = nn) (l2 : bs.length = ks.length) (hp : pre i)
    (hg : Gl X n := by rfl) (hall : (backToKw pos (keywordEach kws X.env)).all (·.1.isSome) = true := by rfl) (hks : (backToKw pos (keywordEach kws X.env)).filterMap (·.1) = ks := by rfl)
    (hdb : (n == ("__debug__" : Str)) = false := by decide) (he : starEach (e :: es) X.env = (false, eval e X.env) :: starEach es X.env := by rfl)
    (hpl : ((backTo pos (starEach (e :: es) X.env)).any (·.1) || (backToKw pos (keywordEach kws X.env)).any (·.1.isNone)) = false := by rfl)
    (xP : X.prog = P := by rfl) (xw : X.w = w := by rfl) (xK : X.K = K := by rfl) (xm : X.mg = mg := by rfl) (xb : X.base = base := by rfl) : E X G (.Call (.Name n p) (e :: es) kws pos) tr (out i) := ⟨fun S Q q => by
  subst xP xw xK xm xb
  obtain ⟨f, fd, hm, hk, _, hb, F⟩ := C.ex
  refine ⟨_, pe_callN F hr hg hm hk hb pass0 pa_w pk_w hall hks hdb he hpl, ha.run S _ fun vs M1 H1 n1 r1 => hkw.run (S.next n1) _ fun zs M2 H2 n2 r2 => ?_⟩
  exact ⟨by rw [reps_len r1, l1], by rw [reps_len r2, l2], i, M2, n2.sub, by rw [har]; exact repsApp (repsExt n2.vx r1) r2, hp, fun v M3 H3 n3 r3 => q v M3 H3 ((n1.trans n2).trans n3) r3⟩⟩
end
/-! ### [e for a, b in xs] -/
theorem wipe_get : ∀ (us : List Nat) (τ : L2.St) (j : Nat), (L2.wipe τ us)[j]? = if j ∈ us then (if j < τ.length then some none else none) else τ[j]? := by
  intro us
  induction us with
  | nil => intro τ j; simp [L2.wipe]
  | cons u us ih =>
    intro τ j
    show ((L2.wipe τ us).set u none)[j]? = _
    by_cases hj : u = j
    · subst hj
      rw [List.getElem?_set]
      simp [wipe_length]
    · rw [List.getElem?_set_ne hj, ih τ j]
      have : (j ∈ u :: us) ↔ j ∈ us := by simp [Ne.symm hj]
      simp [this]
theorem wipe_set {σ : L2.St} {o : Option V} {i : Nat} {vs : List Nat} (hi : i ∈ vs) : L2.wipe (σ.set i o) vs = L2.wipe σ vs := by
  apply List.ext_getElem?
  intro j
  rw [wipe_get, wipe_get]
  by_cases hj : j ∈ vs
  · rw [if_pos hj, if_pos hj, List.length_set]
  · rw [if_neg hj, if_neg hj, List.getElem?_set_ne (fun z => hj (by rw [← z]; exact hi))]
section
variable {α β γ : Type} {X : Cx} {G : List Sl} {a e : Expr} {s : Ty α} {t : Ty β} {u : Ty γ} {scope : Scope} {own : List (Str × Nat)}
theorem lc_L2 {n1 n2 : Str} {q1 q2 q3 : Pos} {kt : Nat} {f : α × β → γ} {zs : List (α × β)} (he : E X G a (tLst (tP2 s t)) zs) (i j : Nat)
    (hel : ∀ (s0 : Shared) (H : Hp) (C : Addr) (cl : List (Str × Addr)) (fp : List Addr) (m : Nat) (x : α) (y : β), zs[m]? = some (x, y) → E (X.blk s0 H scope (compEnvC scope cl C X.env) fp) (((wipeG G (own.map (·.2))).set i (.vl s x)).set j (.vl t y)) e u (f (x, y)))
    (ok : BlkOk X.N X.env.scope scope own) (hz : zs.length ≤ 1000000) (hcm : X.calm = true)
    (hg1 : ∀ (s0 : Shared) (H : Hp) (C : Addr) (cl : List (Str × Addr)) (fp : List Addr), PG (X.blk s0 H scope (compEnvC scope cl C X.env) fp) (.Name n1 q1) (gName i))
    (hg2 : ∀ (s0 : Shared) (H : Hp) (C : Addr) (cl : List (Str × Addr)) (fp : List Addr), PG (X.blk s0 H scope (compEnvC scope cl C X.env) fp) (.Name n2 q2) (gName j)) (hio : i ∈ own.map (·.2) := by decide) (hjo : j ∈ own.map (·.2) := by decide)
    (hs : ∀ x, foldedSetIterable a X.env x = pure x := by intro _; rfl) : LC X G e (.Tuple [.Name n1 q1, .Name n2 q2] kt q3) a [] scope u (zs.map f) := ⟨_, gTup X.K 2 (gCons (gName i) (gCons (gName j) gNil)), _, wBlk X scope e, own, (pi_list pe_w), ok, (fun s0 H C cl fp => pg_tup (X := X.blk s0 H scope (compEnvC scope cl C X.env) fp) hcm (pgs_cons (hg1 s0 H C cl fp) (pgs_cons (hg2 s0 H C cl fp) pgs_nil rfl) rfl) rfl rfl), (fun _ _ _ _ _ => pts_nil), (fun s0 H C cl fp => pe_blk s0 H C cl fp), hs, fun {M0 H0 M H σ} S Q q => by
  refine he.run S _ fun v M1 H1 n1 r1 => ?_
  obtain ⟨p, vs, e1, e2, e3⟩ := r1
  refine ⟨p, e1, ⟨vs, SqL.of (n1.sub _ _ e2)⟩, fun D hD => lc_list (K := X.K) (a := p) (xs := vs) (fun m H' => LcI X.K u M1 H1 D ((zs.take m).map f) H') (lcI_start n1.sub hD) (fun m H' _ ⟨M', _, n', _⟩ => SqL.of (n'.sub _ _ (n'.vx _ _ e2))) ?_ ?_⟩
  · intro m w H' hm hI
    obtain ⟨⟨x', y'⟩, g1, g2⟩ := paired_get' e3 hm
    obtain ⟨pa, v1, v2, f1, f2, f3, f4⟩ := g2
    obtain ⟨M', ws, n', mD, hh, pr⟩ := id hI
    refine ⟨pa, [v1, v2], f1, sqT_ext (n'.vx.trans n'.sub) f2, rfl, v1, [v2], rfl, v2, [], rfl, rfl, ?_⟩
    refine ⟨?_, fun s0 H2 C cl fp => ?_⟩
    · rw [wipe_set hjo, wipe_set hio]
      exact List.ext_getElem? fun l => by
        rw [wipe_get, wipe_get]
        by_cases hl : l ∈ own.map (·.2)
        · rw [if_pos hl, if_pos hl, wipe_length]
        · rw [if_neg hl, if_neg hl]
    · rw [take_snoc g1, List.map_append]
      have hl : ((zs.take m).map f).length < 1000000 := by
        have := (List.getElem?_eq_some_iff.mp g1).1
        rw [List.length_map, List.length_take]; omega
      exact lcI_turn (X := X) rfl hD hI hl (fun M' n' => (St.block (S.next n1) n' _ i f3).set (s := .vl t y') (v := v2) (t.ext n'.vx f4)) (hel s0 H2 C cl fp m x' y' g1)
  · rintro H' ⟨M', ws, n', mD, hh, pr⟩
    rw [e3.length, List.take_length] at pr
    exact q D M' H' ws (n1.trans n') (n1.ex.free hD) mD hh pr⟩
end
end TL


namespace TL
open PySem PySem.Spec PyProof.Rows L2
theorem layInts : ∀ ns : List Int, PyData.canLayAll0 (ns.map PyData.int) = true
  | [] => by rw [List.map_nil, PyData.canLayAll0]
  | n :: ns => by rw [List.map_cons, PyData.canLayAll0, layInts ns, PyData.canLay0]; rfl
theorem depInts : ∀ ns : List Int, PyData.depthAll (ns.map PyData.int) = 0
  | [] => by rw [List.map_nil, PyData.depthAll]
  | n :: ns => by rw [List.map_cons, PyData.depthAll, depInts ns, PyData.depth]; rfl
theorem eqvInts : ∀ ns ms : List Int, PyData.eqvAll (ns.map PyData.int) (ms.map PyData.int) = decide (ns = ms)
  | [], [] => by simp [PyData.eqvAll]
  | [], m :: ms => by simp [PyData.eqvAll]
  | n :: ns, [] => by simp [PyData.eqvAll]
  | n :: ns, m :: ms => by
    rw [List.map_cons, List.map_cons, PyData.eqvAll, eqvInts ns ms]
    by_cases h : n = m <;> simp [PyData.eqv, h]
theorem sh_row (ns : List Int) : SeqAt.shaped (dRow ns) = true := by
  unfold dRow SeqAt.shaped; rw [PyData.canLay0, PyData.depth, layInts, depInts]; rfl
theorem sh_rowL (ns : List Int) : SeqAt.shaped (dRowL ns) = true := by
  unfold dRowL SeqAt.shaped; rw [PyData.canLay0, PyData.depth, layInts, depInts]; rfl
theorem eqv_row (a b : List Int) : PyData.eqv (dRow a) (dRow b) = decide (a = b) := by
  unfold dRow; rw [PyData.eqv, eqvInts]
theorem eqv_rowL (a b : List Int) : PyData.eqv (dRowL a) (dRowL b) = decide (a = b) := by
  unfold dRowL; rw [PyData.eqv, eqvInts]
theorem layRows : ∀ ns : List (List Int), PyData.canLayAll0 (ns.map dRow) = true
  | [] => by rw [List.map_nil, PyData.canLayAll0]
  | n :: ns => by rw [List.map_cons, PyData.canLayAll0, layRows ns]; unfold dRow; rw [PyData.canLay0, layInts]; rfl
theorem layRowsL : ∀ ns : List (List Int), PyData.canLayAll0 (ns.map dRowL) = true
  | [] => by rw [List.map_nil, PyData.canLayAll0]
  | n :: ns => by rw [List.map_cons, PyData.canLayAll0, layRowsL ns]; unfold dRowL; rw [PyData.canLay0, layInts]; rfl
theorem depRows : ∀ ns : List (List Int), PyData.depthAll (ns.map dRow) ≤ 1
  | [] => by rw [List.map_nil, PyData.depthAll]; omega
  | n :: ns => by
    have := depRows ns
    rw [List.map_cons, PyData.depthAll]; unfold dRow; rw [PyData.depth, depInts]; unfold dRow at this; omega
theorem depRowsL : ∀ ns : List (List Int), PyData.depthAll (ns.map dRowL) ≤ 1
  | [] => by rw [List.map_nil, PyData.depthAll]; omega
  | n :: ns => by
    have := depRowsL ns
    rw [List.map_cons, PyData.depthAll]; unfold dRowL; rw [PyData.depth, depInts]; unfold dRowL at this; omega
theorem sh_tab (ns : List (List Int)) : SeqAt.shaped (dTab ns) = true := by
  have := depRows ns
  unfold dTab SeqAt.shaped; rw [PyData.canLay0, PyData.depth, layRows, Bool.true_and]; exact decide_eq_true (by omega)
theorem sh_tabL (ns : List (List Int)) : SeqAt.shaped (dTabL ns) = true := by
  have := depRowsL ns
  unfold dTabL SeqAt.shaped; rw [PyData.canLay0, PyData.depth, layRowsL, Bool.true_and]; exact decide_eq_true (by omega)
theorem eqvRows : ∀ ns ms : List (List Int), PyData.eqvAll (ns.map dRow) (ms.map dRow) = decide (ns = ms)
  | [], [] => by simp [PyData.eqvAll]
  | [], m :: ms => by simp [PyData.eqvAll]
  | n :: ns, [] => by simp [PyData.eqvAll]
  | n :: ns, m :: ms => by
    rw [List.map_cons, List.map_cons, PyData.eqvAll, eqvRows ns ms, eqv_row]
    simp
theorem eqvRowsL : ∀ ns ms : List (List Int), PyData.eqvAll (ns.map dRowL) (ms.map dRowL) = decide (ns = ms)
  | [], [] => by simp [PyData.eqvAll]
  | [], m :: ms => by simp [PyData.eqvAll]
  | n :: ns, [] => by simp [PyData.eqvAll]
  | n :: ns, m :: ms => by
    rw [List.map_cons, List.map_cons, PyData.eqvAll, eqvRowsL ns ms, eqv_rowL]
    simp
theorem eqv_tab (a b : List (List Int)) : PyData.eqv (dTab a) (dTab b) = decide (a = b) := by
  unfold dTab; rw [PyData.eqv, eqvRows]
theorem eqv_tabL (a b : List (List Int)) : PyData.eqv (dTabL a) (dTabL b) = decide (a = b) := by
  unfold dTabL; rw [PyData.eqv, eqvRowsL]
/-! ### tuples of many types -/
inductive CReps (K : Fg) (M : Hp) : List V → List Cl → Prop where
  | nil : CReps K M [] []
  | cons {c : Cl} {v : V} {vs : List V} {cs : List Cl} (h : c.t.rep K M v c.x) (r : CReps K M vs cs) : CReps K M (v :: vs) (c :: cs)
theorem cr_ext {K : Fg} {M M' : Hp} (e : Same M M') : ∀ {vs : List V} {cs : List Cl}, CReps K M vs cs → CReps K M' vs cs
  | _, _, .nil => .nil
  | _, _, .cons (c := c) h r => .cons (c.t.ext e h) (cr_ext e r)
def tTu {α : Type} (fs : α → List Cl) : Ty α := ⟨fun K M v x => ∃ a vs, v = .ref a ∧ SqT K M a vs ∧ CReps K M vs (fs x), fun e ⟨a, vs, h1, h2, h3⟩ => ⟨a, vs, h1, sqT_ext e h2, cr_ext e h3⟩⟩
theorem cr_of {K : Fg} {M : Hp} : ∀ {vs : List V} {cs : List Cl}, Reps K M vs (cs.map fun c => .vl c.t c.x) → CReps K M vs cs
  | _, [], h => by
    cases h; exact .nil
  | _, c :: cs, h => by
    cases h with
    | cons h r => exact .cons h (cr_of r)
theorem cr_len {K : Fg} {M : Hp} : ∀ {vs : List V} {cs : List Cl}, CReps K M vs cs → vs.length = cs.length
  | _, _, .nil => rfl
  | _, _, .cons _ r => by simp [cr_len r]
theorem cr_get {K : Fg} {M : Hp} : ∀ {vs : List V} {cs : List Cl} {i : Nat} {c : Cl}, CReps K M vs cs → cs[i]? = some c → ∃ v, vs[i]? = some v ∧ c.t.rep K M v c.x
  | _, _, _, _, .nil, e => by simp at e
  | _, _, 0, _, .cons h _, e => by simp at e; subst e; exact ⟨_, rfl, h⟩
  | _, _, i + 1, c, .cons _ r, e => by
    obtain ⟨v, q, h⟩ := cr_get (i := i) r (by simpa using e)
    exact ⟨v, by simpa using q, h⟩
section
variable {α β γ ι ρ : Type} {X : Cx} {G : List Sl} {a b c e : Expr} {es rest : List Expr} {s : Ty α} {t : Ty β} {u : Ty γ} {x : α} {y : β} {z : γ} {pos : Pos} {k : Nat}
theorem e_tu {fs : α → List Cl} {n : Nat} {ss : List Sl} (x : α) (h : EA X G es ss) (hs : ss = (fs x).map fun c => .vl c.t c.x := by rfl) (hl : (fs x).length ≤ 1000000 := by first | decide | (simp only [List.length_cons, List.length_nil]; omega) | exact Nat.le_of_ble_eq_true rfl) : E X G (.Tuple es n pos) (tTu fs) x := ⟨fun S Q k =>
  ⟨_, pe_tup pa_w, h.run S _ fun vs M1 H1 n1 r1 => by
    rw [hs] at r1
    have r2 := cr_of r1
    exact ⟨by rw [cr_len r2]; exact Nat.le_trans hl (by decide), fun p hp => k _ _ _ (n1.trans (Nx.new n1.sub hp)) ⟨p, vs, rfl, .inl (.inl upd_same), cr_ext (same_new (same_none n1.sub hp)) r2⟩⟩⟩⟩
theorem e_tuI {fs : α → List Cl} {i : Int} (y : β) (ha : E X G a (tTu fs) x) (hb : E X G b tI i) (h : (fs x)[i.toNat]? = some ⟨t, y⟩ := by rfl) (h0 : 0 ≤ i := by decide) (hs : PlainIx b := by exact fun _ _ => rfl) : E X G (.Subscript a b pos) t y := ⟨fun S Q k =>
  ⟨_, pe_ix ix_tup pe_w pe_w hs, ha.run S _ fun v M1 H1 n1 r1 => hb.run (S.next n1) _ fun w' M2 H2 n2 r2 => by
    obtain ⟨p, vs, e1, e2, e3⟩ := r1
    obtain ⟨v, q1, q2⟩ := cr_get e3 h
    have hl := (List.getElem?_eq_some_iff.mp q1).1
    refine ⟨p, _, i, v, e1, r2, sqT_ext (n2.vx.trans n2.sub) e2, ?_, k v M2 H2 (n1.trans n2) (t.ext n2.vx q2)⟩
    show (ixN vs.length i).bind (fun j => vs[j]?) = some v
    unfold ixN
    rw [if_pos h0, if_pos (by omega)]
    exact q1⟩⟩
/-! ### C(..), packed -/
structure Mkr (P : Program) (w : World) (K : Fg) (mg : Str → Option Value) (base : Heap) (k : Nat) (n : Str) (C : Addr) (ps : List Str) (sp : Sp) : Prop where
  ex : ∃ f fd, Mk K C f ∧ FnOk P w K mg base CX0 k f fd ps sp ∧ mg n = some (.ref C) ∧ Binds K fd ps []
theorem e_mk {P : Program} {w : World} {K : Fg} {mg : Str → Option Value} {base : Heap} {n : Str} {C : Addr} {ps : List Str} {ar : ι → List Sl} {pre : ι → Prop} {fs : ι → List (Str × Cl)} {p : Pos} (M : Mkr P w K mg base k n C ps (spI K C ar pre fs)) (hr : Room (k + 1) X.A) (i : ι) (ha : EA X G (e :: es) (ar i)) (hp : pre i)
    (hg : Gl X n := by rfl) (hdb : (n == ("__debug__" : Str)) = false := by decide) (he : starEach (e :: es) X.env = (false, eval e X.env) :: starEach es X.env := by rfl) (hpl : (backTo pos (starEach es X.env)).any (·.1) = false := by rfl)
    (xP : X.prog = P := by rfl) (xw : X.w = w := by rfl) (xK : X.K = K := by rfl) (xm : X.mg = mg := by rfl) (xb : X.base = base := by rfl) : E X G (.Call (.Name n p) (e :: es) [] pos) (tOb C fs) i := by
  obtain ⟨f, fd, h1, h2, h3, h4⟩ := M.ex
  exact e_make h1 h2 hr h3 h4 i ha hp hg hdb he hpl xP xw xK xm xb
end
end TL

namespace TL
open PySem PySem.Spec PyProof.Rows L2
/-! ### the end: what the top has left -/
section
variable {P : Program} {w : World} {K : Fg} {mg : Str → Option Value} {base h : Heap} {f D : Addr} {fd : FuncData} {x qual : Str} {st : Stmt}
theorem fn_in {k : Nat} {n : Str} {ps : List Str} {sp : Sp} (X : K.In h) (G : h.Ns mainGlobals mg) (a : PySem.W.nsIn K mainGlobals n = some (some (.ref f))) (F : Fun K x qual st f fd) (b : Binds K fd ps []) (ok : FnOk P w K mg base CX0 k f fd ps sp) : Fn P w K mg base CX0 k n ps sp :=
  ⟨f, fd, PySem.W.mg_of X G a, F.kp, b, ok⟩
/-- a def with one keyword-only parameter nm, default j -/
theorem funD_mk {nm : Str} {j : Int} {t : Tok} {oc : Value} {od an : Option Addr} {osl : Array (Option Value)} {doc pm cdv ct : Value} (l : K.lookup f = some ⟨oc, od, .func (PySem.W.fnOf x qual (defArgs st) (defBody st) (defScope st) .none (.ref D) doc pm an cdv ct), osl⟩)
    (c : PySem.W.codeIn K cdv qual = true) (k : PySem.W.keepIn K (.ref f) = true) (q : PySem.W.nsIn K D nm = some (some (.int j t))) : FunD K x qual (defArgs st) (defBody st) (defScope st) [] [(nm, .int j)] f (PySem.W.fnOf x qual (defArgs st) (defBody st) (defScope st) .none (.ref D) doc pm an cdv ct) :=
  ⟨⟨oc, od, .none, .ref D, doc, pm, an, cdv, ct, osl, rfl, l, c, .inl ⟨rfl, rfl⟩, .inr ⟨D, rfl, fun p hp => by
    rw [List.mem_singleton.mp hp]
    exact ⟨.int j t, q, t, rfl⟩⟩⟩, k⟩
theorem fnD_in {k n : Nat} {m nm : Str} {j : Int} {ps : List Str} {sp : Sp} (X : K.In h) (G : h.Ns mainGlobals mg) (a : PySem.W.nsIn K mainGlobals m = some (some (.ref f))) (F : FunD K x qual (defArgs st) (defBody st) (defScope st) [] [(nm, .int j)] f fd)
    (hn : n + 1 = ps.length)
    (h0 : ∀ (D : Addr) (doc pm : Value) (an : Option Addr) (cdv ct : Value) (us ks : List Value), us.length = n → ks.length = 1 → KwChain D ([nm].zip ks) (bindArgs (PySem.W.fnOf x qual (defArgs st) (defBody st) (defScope st) .none (.ref D) doc pm an cdv ct) ⟨us, []⟩) (ps.zip (us ++ ks)))
    (h1 : ∀ (kV doc pm : Value) (an : Option Addr) (cdv ct : Value) (us ws : List Value), us.length = n → ws.length = 1 → bindArgs (PySem.W.fnOf x qual (defArgs st) (defBody st) (defScope st) .none kV doc pm an cdv ct) ⟨us, [nm].zip ws⟩ = pure (ps.zip (us ++ ws)))
    (ok : FnOk P w K mg base CX0 k f fd ps sp) : FnD P w K mg base CX0 k m ps n [nm] [.int j] sp := by
  refine ⟨f, fd, PySem.W.mg_of X G a, F.kp, F.binds0 n (by simp) (by simpa using hn) h0, ⟨fun s us ws _ l1 l2 => ?_, fun r1 r2 => r1.append r2⟩, ok⟩
  obtain ⟨oc, od, dV, kV, doc, pm, an, cdv, ct, osl, rfl, lk, hcd, hD, hK⟩ := F.ex
  rcases hD with ⟨_, rfl⟩ | ⟨e, _⟩
  · exact .of_eq (h1 kV doc pm an cdv ct us ws l1 l2)
  · exact absurd rfl e
end
theorem pair_ints {K : Fg} {M : Hp} : ∀ ns : List Int, Paired (tI.rep K M) (ns.map V.int) ns
  | [] => .nil
  | n :: ns => .cons rfl (pair_ints ns)
theorem law_sp {K : Fg} {H : Hp} {a : Addr} {ns : List Int} (hl : ns.length ≤ 63) (hS : SqL K H a (ns.map V.int)) : spG K (fun i : List Int => [.vl (tSq tI) i]) (fun i => i.length ≤ 63) tB (fun _ => true) [.ref a] H (fun v _ => v = .bl true) (fun _ _ _ => False) :=
  ⟨ns, H, Same.refl H, .cons ⟨a, ns.map V.int, rfl, hS, pair_ints ns⟩ .nil, hl, fun v M' H' n r => r⟩
end TL

namespace TL
open PySem PySem.Spec PyProof.Rows L2
section
variable {X : Cx}
/-! ### x + y of an own class -/
def rAddOwn (C : Addr) (sp : Sp) (E : XK) : R2 := fun x y H Q => ∃ a dx vs b dy ws, x = .ref a ∧ y = .ref b ∧ H a = some (.ins C dx vs) ∧ H b = some (.ins C dy ws) ∧ sp [.ref a, .ref b] H Q E
theorem op_addOwn {CX : CXT} {k : Nat} {C f : Addr} {fd : FuncData} {ps : List Str} {sp : Sp} {E : XK} (hc : PySem.W.selfFirst X.K C = true) (hs : PySem.W.findIn X.K (.ref C) "__add__" = some (some (.ref f))) (hf : PySem.W.isFn X.K (.ref f) = true)
    (F : FnOk X.prog X.w X.K X.mg X.base CX k f fd ps sp) (hr : Room k X.A) (hb : Binds X.K fd ps []) (hx : Passes CX X E) : OpR X (binaryOp .Add) (rAddOwn C sp E) := by
  intro pins s σ H x y v u Q I rx ry h
  obtain ⟨a, dx, vs, b, dy, ws, rfl, rfl, ha, hb', q⟩ := h
  cases (show v = Value.ref a from rx)
  cases (show u = Value.ref b from ry)
  obtain ⟨mA, J, _⟩ := ins_get I.hok ha
  obtain ⟨mB, J', _⟩ := ins_get I.hok hb'
  obtain ⟨od, J, _⟩ := J.look
  obtain ⟨od', J', _⟩ := J'.look
  obtain ⟨m, hF⟩ := I.fr
  refine PySem.W.binop_K (op := .Add) hF I.ok.mod.kin J J'.type hc hs hf ?_
  refine wpAny_mono (run_fn (us := [.ref a, .ref b]) (vs := [.ref a, .ref b]) F hr hb .nil hx I (.cons rfl (.cons rfl .nil)) (by rw [List.append_nil]; exact q)) (fun w s' z => ?_) fun _ _ x => x
  obtain ⟨z', H', I', rz, qz⟩ := z
  exact SlX.cmpback rz ⟨z', H', I', rz, qz⟩
/-! ### is True, is False -/
theorem op_isB : OpR X (compareOp .Is) (fun x y H Q => ∃ a b, x = .bl a ∧ y = .bl b ∧ Q (.bl (a == b)) H) := by
  intro pins s σ H x y v u Q I rx ry h
  obtain ⟨a, b, rfl, rfl, q⟩ := h
  cases (show v = Value.bool a from rx)
  cases (show u = Value.bool b from ry)
  exact is_bool (fin_bl I q rfl)
end
section
variable {α β γ ι ρ : Type} {X : Cx} {G : List Sl} {a b c e : Expr} {es rest : List Expr} {s : Ty α} {t : Ty β} {u : Ty γ} {x : α} {y : β} {z : γ} {pos : Pos} {k : Nat} {R : Out}
theorem cv_isB {p q : Bool} : CmpV X .Is tB tB p q (p == q) := ⟨_, op_isB, fun M H v w Q m h1 h2 k => ⟨p, q, h1, h2, k M H (Nx.refl m)⟩⟩
/-- x in xs, of ints -/
theorem inV_ints (i : Int) : ∀ ns : List Int, inV (.int i) (ns.map V.int) = decide (i ∈ ns)
  | [] => rfl
  | n :: ns => by
    have ih := inV_ints i ns
    unfold inV at ih ⊢
    rw [List.map_cons, List.any_cons, ih]
    show ((n == i) || _) = _
    by_cases h : i = n
    · simp [h]
    · have h' : ¬ n = i := fun z => h z.symm
      simp [h, h']
theorem flat_ints : ∀ ns : List Int, (ns.map V.int).all flatV = true
  | [] => rfl
  | n :: ns => by rw [List.map_cons, List.all_cons, flat_ints ns]; rfl
theorem cv_inT {i : Int} {ns : List Int} : CmpV X .In tI (tTup tI) i ns (decide (i ∈ ns)) := ⟨_, op_in_seq, fun M H v w Q m h1 h2 k => by
  obtain ⟨p, vs, e1, e2, e3⟩ := h2
  have e4 := paired_int e3
  subst e4
  have h1' : v = .int i := h1
  subst h1'
  refine ⟨p, _, e1, .inr (sqT_ext m e2), rfl, flat_ints ns, ?_⟩
  rw [if_neg (by decide), inV_ints]; exact k M H (Nx.refl m)⟩
theorem cv_inL {i : Int} {ns : List Int} : CmpV X .In tI (tLst tI) i ns (decide (i ∈ ns)) := ⟨_, op_in_seq, fun M H v w Q m h1 h2 k => by
  obtain ⟨p, vs, e1, e2, e3⟩ := h2
  have e4 := paired_int e3
  subst e4
  have h1' : v = .int i := h1
  subst h1'
  refine ⟨p, _, e1, .inl (SqL.of (m _ _ e2)), rfl, flat_ints ns, ?_⟩
  rw [if_neg (by decide), inV_ints]; exact k M H (Nx.refl m)⟩
theorem cv_ninT {i : Int} {ns : List Int} : CmpV X .NotIn tI (tTup tI) i ns (!decide (i ∈ ns)) := ⟨_, op_notIn_seq, fun M H v w Q m h1 h2 k => by
  obtain ⟨p, vs, e1, e2, e3⟩ := h2
  have e4 := paired_int e3
  subst e4
  have h1' : v = .int i := h1
  subst h1'
  refine ⟨p, _, e1, .inr (sqT_ext m e2), rfl, flat_ints ns, ?_⟩
  rw [if_pos rfl, inV_ints]; exact k M H (Nx.refl m)⟩
theorem cv_ninL {i : Int} {ns : List Int} : CmpV X .NotIn tI (tLst tI) i ns (!decide (i ∈ ns)) := ⟨_, op_notIn_seq, fun M H v w Q m h1 h2 k => by
  obtain ⟨p, vs, e1, e2, e3⟩ := h2
  have e4 := paired_int e3
  subst e4
  have h1' : v = .int i := h1
  subst h1'
  refine ⟨p, _, e1, .inl (SqL.of (m _ _ e2)), rfl, flat_ints ns, ?_⟩
  rw [if_pos rfl, inV_ints]; exact k M H (Nx.refl m)⟩
/-- the truth of a list -/
theorem t_lst {xs : List α} (he : E X G a (tLst s) xs) (h : ∀ whole, isTrue a X.env whole = (do let v ← whole; standAt a.pos; holding [v] (truthy v)) := by intro _; rfl) : T X G a (!xs.isEmpty) := ⟨fun S Q k =>
  ⟨_, pt_truth pe_w h, he.run S _ fun v M1 H1 n1 r1 => by
    obtain ⟨p, vs, e1, e2, e3⟩ := r1
    subst e1
    refine ⟨!xs.isEmpty, .inl ⟨vs, SqL.of (n1.sub _ _ e2), ?_⟩, k M1 H1 n1⟩
    have := e3.length
    cases xs with
    | nil => rw [List.eq_nil_of_length_eq_zero this]; rfl
    | cons x xs =>
      cases vs with
      | nil => cases this
      | cons v vs => rfl⟩⟩
theorem t_tup {xs : List α} (he : E X G a (tTup s) xs) (h : ∀ whole, isTrue a X.env whole = (do let v ← whole; standAt a.pos; holding [v] (truthy v)) := by intro _; rfl) : T X G a (!xs.isEmpty) := ⟨fun S Q k =>
  ⟨_, pt_truth pe_w h, he.run S _ fun v M1 H1 n1 r1 => by
    obtain ⟨p, vs, e1, e2, e3⟩ := r1
    subst e1
    refine ⟨!xs.isEmpty, .inr (.inl ⟨vs, sqT_ext n1.sub e2, ?_⟩), k M1 H1 n1⟩
    have := e3.length
    cases xs with
    | nil => rw [List.eq_nil_of_length_eq_zero this]; rfl
    | cons x xs =>
      cases vs with
      | nil => cases this
      | cons v vs => rfl⟩⟩
/-- x = xs.pop() -/
theorem paired_last {α β : Type} {F : α → β → Prop} : ∀ {vs : List α} {xs : List β} {x : β}, Paired F vs (xs ++ [x]) → ∃ ws w, vs = ws ++ [w] ∧ Paired F ws xs ∧ F w x
  | _, [], x, h => by
    cases h with
    | cons h t => cases t; exact ⟨[], _, rfl, .nil, h⟩
  | _, y :: ys, x, h => by
    cases h with
    | cons h t =>
      obtain ⟨ws, w, rfl, p, q⟩ := paired_last (xs := ys) t
      exact ⟨_ :: ws, w, rfl, .cons h p, q⟩
theorem s_pop (k m : Nat) {n m' : Str} {p1 apos cpos pos' : Pos} {xs : List α} (hne : m ≠ k) (h0 : G[m]? = some (.ow s (xs ++ [x]))) (h : R.nx ((G.set m (.ow s xs)).set k (.vl s x))) (hN : X.N.Nodup) (hi : X.N[m]? = some n := by rfl) (hk : X.N[k]? = some m' := by rfl)
    (hv : Vis X.env.scope n := by first | exact Or.inl rfl | exact Or.inr (Or.inl rfl) | exact Or.inr (Or.inr rfl))
    (hd : (n == ("__debug__" : Str)) = false := by decide) (hcd : (n == ("__classdict__" : Str)) = false := by decide)
    (hbase : attributeBase (.Name n p1) "pop" X.env (eval (.Name n p1) X.env) = eval (.Name n p1) X.env := by rfl) (hline : (apos.endLine == cpos.line) = true := by rfl)
    (hx : Loc X.env.scope m' := by first | exact Or.inl rfl | exact Or.inr rfl) (hs : swapsWith (.Call (.Attribute (.Name n p1) "pop" apos) [] [] cpos) (some (.Name m' pos')) pos.line X.env = pure false := by rfl) (hf : X.fn m' = true ∨ X.env.scope.names.lookup m' = some .local := by first | exact .inl rfl | exact .inr rfl) :
    S1 X G (.Assign [.Name m' pos'] (.Call (.Attribute (.Name n p1) "pop" apos) [] [] cpos) pos) R := ⟨fun D E S tk f => by
  obtain ⟨a, vs, e0, hh, mp, pr, upd'⟩ := S.putOwn (ys := xs) h0
  obtain ⟨ws, w, rfl, pw, rw_⟩ := paired_last pr
  refine ⟨_, ps_set hN hk hx (pe_bm0 PySem.F.plainAttrs_list PySem.F.slot_list_pop PySem.F.type_list_pop mt_pop (pe_var hi hv hd hcd) hbase hline) hs hf, ?_⟩
  refine ⟨.ref a, e0, .inl ⟨rfl, _, SqL.of hh⟩, a, _, w, rfl, rfl, hh, ?_, ?_⟩
  · rw [List.length_append, List.length_singleton, Nat.add_sub_cancel, List.getElem?_append_right (Nat.le_refl _), Nat.sub_self]; rfl
  · rw [List.dropLast_concat]
    exact f.nx ((upd' ws pw).set (s := .vl s x) rw_) h⟩
/-- x + y of an own class, packed -/
structure AddC (P : Program) (w : World) (K : Fg) (mg : Str → Option Value) (base : Heap) (k : Nat) (C : Addr) (ps : List Str) (sp : Sp) : Prop where
  ex : ∃ f fd, PySem.W.selfFirst K C = true ∧ PySem.W.findIn K (.ref C) "__add__" = some (some (.ref f)) ∧ PySem.W.isFn K (.ref f) = true ∧ Binds K fd ps [] ∧ FnOk P w K mg base CX0 k f fd ps sp
theorem e_addOb {P : Program} {w : World} {K : Fg} {mg : Str → Option Value} {base : Heap} {C : Addr} {ps : List Str} {ar : ι → List Sl} {pre : ι → Prop} {tr : Ty ρ} {out : ι → ρ} {fs : α → List (Str × Cl)} {gs : β → List (Str × Cl)} (M : AddC P w K mg base k C ps (spG K ar pre tr out)) (hr : Room k X.A) (i : ι) (ha : E X G a (tOb C fs) x) (hb : E X G b (tOb C gs) y) (har : ar i = [.vl (tOb C fs) x, .vl (tOb C gs) y]) (hp : pre i)
    (xP : X.prog = P := by rfl) (xw : X.w = w := by rfl) (xK : X.K = K := by rfl) (xm : X.mg = mg := by rfl) (xb : X.base = base := by rfl) : E X G (.BinOp a .Add b pos) tr (out i) := by
  subst xP xw xK xm xb
  obtain ⟨f, fd, h1, h2, h3, h4, F⟩ := M.ex
  refine e_op2 (op_addOwn h1 h2 h3 F hr h4 (pass0 : Passes CX0 X (fun _ _ _ => False))) ha hb fun M H v w Q m r1 r2 k => ?_
  obtain ⟨p, dx, vs, e1, e2, e3⟩ := id r1
  obtain ⟨q, dy, ws, g1, g2, g3⟩ := id r2
  refine ⟨p, dx, vs, q, dy, ws, e1, g1, m _ _ e2, m _ _ g2, i, M, m, ?_, hp, fun u M' H' n r => k u M' H' n r⟩
  rw [har, ← e1, ← g1]
  exact .cons r1 (.cons r2 .nil)
/-- isinstance(x, C), x of the own class C -/
theorem e_isOwn {p : Pos} {C : Addr} {fs : α → List (Str × Cl)} (c : C8.InsC X.K C) (hm : X.mg "isinstance" = none) (ha : E X G a (tOb C fs) x) (hb : E X G b tC (.ref C)) (hg : Gl X "isinstance" := by rfl)
    (he : starEach [a, b] X.env = (false, eval a X.env) :: starEach [b] X.env := by rfl) (he2 : starEach [b] X.env = (false, eval b X.env) :: starEach [] X.env := by rfl) (hpl : (backTo pos (starEach [b] X.env)).any (·.1) = false := by rfl) : E X G (.Call (.Name "isinstance" p) [a, b] [] pos) tB true :=
  e_isi hm ha hb (fun M v r => by
    obtain ⟨q, dx, vs, e1, e2, e3⟩ := r
    subst e1
    exact ⟨.ref C, .ref C, .own C, fun H m => .base (.ins (m _ _ e2) c.cl c.ha c.hn c.htk c.hm), c.me⟩) hg he he2 hpl
end
end TL

namespace TL
open PySem PySem.Spec PyProof.Rows L2
/-! ### for i, x in enumerate(t), t a tuple -/
theorem meetsEn {v : Value} {o : Obj} {Ok : Heap → Prop} (B : Begins v o Ok) :
    Meets (Builtin.«enumerate.__new__» ⟨[.type "enumerate", v], []⟩) (fun _ R s => Ok s.heap ∧
      R (.ok (.ret (.ref (s.heap.push o).objs.size))) { s with heap := (s.heap.push o).push { cls := .type "enumerate", data := .fields #[.none, .bool false, .ref s.heap.objs.size, rawInt 0, .none, .none] } }) :=
  .of_wp fun prog w A R s h => by
    obtain ⟨hp, g, d, tk, os⟩ := s
    obtain ⟨hv, h⟩ := h
    have sb := sub_enumerate
    have pi : ∀ {A' : Around} {E' : Value → Shared → Prop} {Q' : Value → Shared → Prop}, Q' (.ref hp.objs.size) ⟨hp.push o, g, d, tk, os⟩ → wpAny (model prog w) A' (pyIter v) Q' E' ⟨hp, g, d, tk, os⟩ := fun q => B.iter prog w _ _ ⟨hp, g, d, tk, os⟩ _ hv q
    wp_walk using pi
    refine wpAny_stack_any fun st => wpAny_pure ?_
    split
    · rename_i cc _ _ _ _ _
      cases (cc == Value.type "enumerate") <;> (wp_walk using pi; exact ⟨_, rfl, h⟩)
    · wp_walk using pi
      exact ⟨_, rfl, h⟩
section
variable {prog : Program} {w : World} {A : Around} {E : Value → Shared → Prop} {s : Shared}
theorem callEnB {v : Value} {o : Obj} {Ok : Heap → Prop} {Q : Value → Shared → Prop} (B : Begins v o Ok) (hv : Ok s.heap)
    (h : ∀ h', IsEnum h' (s.heap.objs.size + 1) s.heap.objs.size 0 .none → h'.get? s.heap.objs.size = some o → (∀ b ob, s.heap.get? b = some ob → h'.get? b = some ob) → Q (.ref (s.heap.objs.size + 1)) { s with heap := h' }) :
    wpAny (model prog w) A (call (.type "enumerate") [v]) Q E s := by
  refine callType_new F.called_enumerate (by decide) (F.typeCall_enumerate_1 _) (F.newCall_enumerate_1 _) (fun ob => F.args_object_init_2 ob _) F.entry_enumerate_new (meetsEn B) ⟨hv, ?_⟩
  have z1 : (s.heap.push o).objs.size = s.heap.objs.size + 1 := Heap.size_push ..
  show _ ∧ _
  rw [z1]
  have en : IsEnum ((s.heap.push o).push { cls := .type "enumerate", data := .fields #[.none, .bool false, .ref s.heap.objs.size, rawInt 0, .none, .none] }) (s.heap.objs.size + 1) s.heap.objs.size 0 .none := by
    have q := Heap.get?_push_size (s.heap.push o) (o := { cls := .type "enumerate", data := .fields #[.none, .bool false, .ref s.heap.objs.size, rawInt 0, .none, .none] }) rfl
    rw [z1] at q
    exact q
  exact ⟨⟨_, en, rfl⟩, h _ en (Heap.get?_push_of_some _ (Heap.get?_push_size _ B.free)) fun b ob x => Heap.get?_push_of_some _ (Heap.get?_push_of_some _ x)⟩
end
/-- the tuple at a, each item in a new pair behind its number -/
def ItT (K : Fg) (a : Addr) : It :=
  ⟨fun i H => ∃ (xs : List V) (x : V), SqT K H a xs ∧ xs[i]? = some x, fun i H v H' => ∃ p x, v = .ref p ∧ H p = none ∧ H' = upd H p (.tup [.int (i : Nat), x]) ∧ ∀ xs, SqT K H a xs → xs[i]? = some x, fun i H => ∃ xs : List V, SqT K H a xs ∧ xs.length = i⟩
theorem turnT {P : Program} {w : World} {K : Fg} {elts : List Expr} {kk : Nat} {tpos : Pos} (a e it : Addr) (n1 : e ≠ it) (n2 : a ≠ it) (n3 : e ≠ a) :
    Turn P w K (.Tuple elts kk tpos) (ItT K a) [e, it] e (fun i h => (∃ old, IsEnum h e it ((i : Nat) : Int) old) ∧ h.IsTupleIter it a i) where
  mem := by simp
  obj := fun i h st b hb => by
    obtain ⟨⟨old, he⟩, o, ho, hc, hd⟩ := st
    rcases (show b = e ∨ b = it by simpa using hb) with z | z
    · rw [z]; exact ⟨_, he, fun v q => nomatch q⟩
    · rw [z]; exact ⟨o, ho, fun v q => by rw [hd] at q; cases q⟩
  keep := fun i h h' st k => ⟨let ⟨old, he⟩ := st.1; ⟨old, k e (by simp) _ he⟩, st.2.at fun o q => k it (by simp) o q⟩
  item := by
    intro X hP hw hK hc i pins s σ H E I hf st hg
    subst hP hw hK
    obtain ⟨⟨old, he⟩, hit⟩ := st
    obtain ⟨xs, x, hq, hx⟩ := hg
    obtain ⟨its, rv, p, hz⟩ := I.tuple hq
    obtain ⟨u, hu, ru⟩ := rv.get hx
    have hel : e < s.heap.objs.size := Heap.lt_size he
    have hil : it < s.heap.objs.size := by obtain ⟨_, q, _⟩ := hit; exact Heap.lt_size q
    have D := Draws.tuple (prog := X.prog) (w := X.w) (A := X.A.in1) (I.ok.hd hc) it a n2 its.toArray
    refine wpAny_pyNext_enum_itemD D he ⟨hit, p⟩ (by simpa using (List.getElem?_eq_some_iff.mp hu).1) n1 (by simp [n1, n3]) fun y h' tk hy ho hst hT hsz hk => ?_
    have hyu : y = u := by
      have q : its.toArray[i]? = some u := by simpa using hu
      rw [q] at hy
      exact (Option.some.inj hy).symm
    subst hyu
    refine ⟨_, rfl, wpAny_letOwnedTupleGo_enum (s := { s with heap := h', toks := tk + 1 }) ho fun h'' he' sb => ?_⟩
    have hT2 : h''.get? s.heap.objs.size = some { cls := .type "tuple", data := .seq #[.int i tk, y] } := (sb.2 _ (Nat.ne_of_gt hel)).trans hT
    have fresh : ObjOk X.prog X.w (upd H s.heap.objs.size (.tup [.int (i : Nat), x])) h'' s.heap.objs.size (.tup [.int (i : Nat), x]) :=
      ⟨by show 2 ≤ sizeLine; decide, [.int i tk, y], .cons ⟨_, rfl⟩ (.cons ru .nil), ⟨_, hT2, rfl, _, rfl⟩⟩
    have I1 : Inv X pins σ (upd H s.heap.objs.size (.tup [.int (i : Nat), x])) { s with heap := h'', toks := tk + 1 } :=
      I.turnedNew (ch := [e, it]) (fun b ob hb q => (sb.2 b (fun z => hb (by simp [z]))).trans (hk b ob (fun z => hb (by simp [z])) (fun z => hb (by simp [z])) q)) hf (Nat.le_refl _) fresh
    refine ⟨.ref s.heap.objs.size, _, I1, rfl, ⟨_, x, rfl, I.hok.fresh (Nat.le_refl _), rfl, fun ys hy => by rw [I.tuple_inj hy hq]; exact hx⟩, ⟨⟨y, ?_⟩, hst.1.at fun o q => (sb.2 it (Ne.symm n1)).trans q⟩, fun b hb => ?_⟩
    · rw [show ((i + 1 : Nat) : Int) = (i : Int) + 1 by omega]; exact he'
    · have hb' : b < s.heap.objs.size := by
        rcases (show b = e ∨ b = it by simpa using hb) with z | z
        · rw [z]; exact hel
        · rw [z]; exact hil
      rw [upd_ne (Nat.ne_of_lt hb')]
      exact (hf b hb).1
  done := by
    intro X hP hw hK hc i pins s σ H E I hf st hg
    subst hP hw hK
    obtain ⟨⟨old, he⟩, hit⟩ := st
    obtain ⟨xs, hq, hx⟩ := hg
    obtain ⟨its, rv, p, hz⟩ := I.tuple hq
    obtain ⟨f0, f1, f2, f3, f4, f5⟩ := hf it (by simp)
    have hl : its.toArray.size = i := by have := rv.length; simp; omega
    have D := Draws.tuple (prog := X.prog) (w := X.w) (A := X.A.in1) (I.ok.hd hc) it a n2 its.toArray
    exact wpAny_pyNext_enum_endD D he (by rw [hl]; exact ⟨hit, p⟩) fun h' eb => ⟨rfl, I.turned (t' := s.toks) (fun b o hb q => eb b o hb q) f0 f1 f3 f4 f5⟩
  self := fun A i s Q E st h => let ⟨⟨_, he⟩, _⟩ := st; wpAny_pyIter_enum he h
def iEnT (K : Fg) (ta : TA) : TI := fun σ H R => ta σ H fun vs H1 => ∃ a xs, vs = [.ref a] ∧ SqT K H1 a xs ∧ R (ItT K a) H1
theorem pi_enT {X : Cx} {e : Expr} {ta : TA} {p pos tpos : Pos} {elts : List Expr} {kk : Nat} (hg : Gl X "enumerate") (hm : X.mg "enumerate" = none) (ha : PA X [e] ta) (hs : starEach [e] X.env = [(false, eval e X.env)] := by rfl) :
    PI X (.Tuple elts kk tpos) (.Call (.Name "enumerate" p) [e] [] pos) (iEnT X.K ta) := by
  refine ⟨fun pins s σ H R I h => ?_⟩
  refine Call_ (ld_blt I hg hm boot_enumerate (PyProof.Rows.callWith_type1 (thn (ha.run pos pins s σ H _ I h) fun us s1 ⟨vs, H1, I1, r1, a, xs, ex, hq, q⟩ => ?_) hs rfl))
  subst ex
  obtain ⟨u, rfl, ru⟩ := r1.one
  cases (show u = Value.ref a from ru)
  obtain ⟨its, rv, p', hz⟩ := I1.tuple hq
  have la : a < s1.heap.objs.size := p'.lt
  refine callEnB (begins_tuple a its.toArray) p' fun h' he hit hk => wpAny_pyIter_enum he ?_
  have I2 : Inv X pins σ H1 { s1 with heap := h' } := I1.kept (t' := s1.toks) hk
  refine ⟨s1.heap.objs.size + 1, [s1.heap.objs.size + 1, s1.heap.objs.size], _, _, H1, rfl, I2, turnT a (s1.heap.objs.size + 1) s1.heap.objs.size (Nat.succ_ne_self _) (Nat.ne_of_lt la) (Nat.ne_of_gt (Nat.lt_succ_of_lt la)), ⟨⟨.none, he⟩, _, hit, rfl, rfl⟩, fun b hb => ?_, q⟩
  have hle : s1.heap.objs.size ≤ b := by
    rcases (show b = s1.heap.objs.size + 1 ∨ b = s1.heap.objs.size by simpa using hb) with z | z
    · rw [z]; exact Nat.le_succ _
    · rw [z]; exact Nat.le_refl _
  exact I1.fpOk hle (I1.hok.fresh hle)
theorem walkT {K : Fg} {a : Addr} {xs : List V} : L2.Walk (ItT K a) xs.length (fun H => SqT K H a xs) (L2.YPair (fun i => some (.int (i : Nat))) (fun i => xs[i]?)) where
  goes := fun i H hi h => ⟨xs, xs[i], h, by simp [hi]⟩
  stops := fun H h => ⟨xs, h, rfl⟩
  yields := fun i H v H' hi h y => by
    obtain ⟨p, x, e1, e2, e3, e4⟩ := y
    exact ⟨p, .int (i : Nat), x, e1, e2, e3, rfl, e4 xs h⟩
section
variable {α β : Type} {X : Cx} {G : List Sl} {a e : Expr} {s : Ty α} {t : Ty β} {pos : Pos} {R : Out} {body : List Stmt}
/-- for i, x in enumerate(t) -/
theorem s_forEn (m1 m2 : Nat) {n1 n2 : Str} {q1 q2 q3 p1 p2 : Pos} {kt : Nat} {xs : List α} (I : Nat → List Sl → Prop) (G0 : List Sl) (hm : X.mg "enumerate" = none) (he : E X G a (tTup s) xs) (w0 : Sub G G0) (h0 : I 0 G0)
    (hs : ∀ m x G', xs[m]? = some x → I m G' → B X ((G'.set m1 (.vl tI (m : Int))).set m2 (.vl s x)) body ⟨I (m + 1), R.rt, R.nx, I (m + 1), R.xc⟩) (hd : ∀ G', I xs.length G' → R.nx G')
    (hN : X.N.Nodup) (hcm : X.calm = true) (hi1 : X.N[m1]? = some n1 := by rfl) (hi2 : X.N[m2]? = some n2 := by rfl)
    (hx1 : Loc X.env.scope n1 := by first | exact Or.inl rfl | exact Or.inr rfl) (hx2 : Loc X.env.scope n2 := by first | exact Or.inl rfl | exact Or.inr rfl) (hf1 : X.fn n1 = true ∨ X.env.scope.names.lookup n1 = some .local := by first | exact .inl rfl | exact .inr rfl) (hf2 : X.fn n2 = true ∨ X.env.scope.names.lookup n2 = some .local := by first | exact .inl rfl | exact .inr rfl)
    (hs1 : (assignEach [.Name n1 q1, .Name n2 q2] X.env).map (·.2) = assign (.Name n1 q1) X.env :: (assignEach [.Name n2 q2] X.env).map (·.2) := by rfl) (hs2 : (assignEach [.Name n2 q2] X.env).map (·.2) = assign (.Name n2 q2) X.env :: (assignEach [] X.env).map (·.2) := by rfl)
    (hn : (assignEach [.Name n1 q1, .Name n2 q2] X.env).length = 2 := by rfl) (hst : (assignEach [.Name n1 q1, .Name n2 q2] X.env).findIdx? (·.1) = none := by rfl)
    (hp : PassesOwn (model X.prog X.w) X.A X.env X.xe := by first | exact PassesOwn.never | assumption) (hg : Gl X "enumerate" := by rfl) (hse : starEach [a] X.env = [(false, eval a X.env)] := by rfl)
    (hfs : ∀ x, foldedSetIterable (.Call (.Name "enumerate" p1) [a] [] p2) X.env x = pure x := by intro _; rfl) : S1 X G (.For (.Tuple [.Name n1 q1, .Name n2 q2] kt q3) (.Call (.Name "enumerate" p1) [a] [] p2) body [] pos) R := ⟨fun {M0 H0 M H σ} D E S tk f =>
  ⟨_, ps_for hp hcm (pi_enT hg hm (pa_cons pe_w pa_nil hse) hse) (pg_tup hcm (pgs_cons (pg_name hN hi1 hx1 hf1) (pgs_cons (pg_name hN hi2 hx2 hf2) pgs_nil hs2) hs1) hn hst) pss_w hfs, he.run S _ fun v M1 H1 n1 r1 => by
    obtain ⟨p, vs, e1, e2, e3⟩ := r1
    subst e1
    have n0 := S.nx.trans n1
    refine ⟨p, vs, rfl, sqT_ext n1.sub e2, for_it (walkT (K := X.K) (a := p) (xs := vs)) (fun m σ' H' => ∃ M' G', St X.K M1 H0 M' H' σ' G' ∧ I m G') ⟨M1, G0, ((S.next n1).weak w0).rebase, h0⟩ (fun m σ' H' _ ⟨M', G', S', _⟩ => sqT_ext (S'.nx.vx.trans S'.sub) e2) ?_ ?_⟩
    · rintro m w σ' H' H2 hm ⟨M', G', S', hI⟩ ⟨p', x1, x2, g1, g2, g3, g4, g5⟩
      obtain ⟨x', k1, k2⟩ := paired_get' e3 g5
      cases (Option.some.inj g4)
      subst g1 g3
      have nn : Nx M' H' (upd M' p' (.tup [.int (m : Nat), x2])) (upd H' p' (.tup [.int (m : Nat), x2])) := Nx.new S'.sub g2
      have S2 := S'.next nn
      refine ⟨p', [.int (m : Nat), x2], rfl, .inl (.inl upd_same), rfl, _, _, rfl, _, _, rfl, rfl, (hs m x' G' k1 hI).run _ E ((S2.set (s := .vl tI (m : Int)) (v := .int (m : Nat)) rfl).set (s := .vl s x') (v := x2) (s.ext (S'.nx.vx.trans nn.vx) k2)) tk
        ⟨fun S2 h2 => ⟨_, _, S2, h2⟩, fun n2 h2 => f.rt (n0.unbase n2) h2, fun S2 h2 => f.nx (S2.unbase n0) h2, fun S2 h2 => ⟨_, _, S2, h2⟩, fun n2 h2 => f.xc (n0.unbase n2) h2⟩⟩
    · rintro σ' H' ⟨M', G', S', hI⟩
      rw [e3.length] at hI
      exact f.nx (S'.unbase n0) (hd G' hI)⟩⟩
end
end TL

namespace TL
open PySem PySem.Spec PyProof.Rows L2
/-! ### promises that tell only what is true of the answer -/
def spE {ι ρ : Type} (K : Fg) (ar : ι → List Sl) (pre : ι → Prop) (t : Ty ρ) (post : ι → ρ → Prop) : Sp := fun vs H Q _ =>
  ∃ (i : ι) (M : Hp), Same M H ∧ Reps K M vs (ar i) ∧ pre i ∧ ∀ y, post i y → ∀ v M' H', Nx M H M' H' → t.rep K M' v y → Q v H'
def RetE {ρ : Type} (K : Fg) (t : Ty ρ) (P : ρ → Prop) : Out := { nx := fun _ => False, rt := fun M v => ∃ y, P y ∧ t.rep K M v y }
section
variable {P : Program} {w : World} {K : Fg} {mg : Str → Option Value} {base : Heap} {ι ρ : Type}
theorem fn_okE {x qual : Str} {st : Stmt} {f : Addr} {fd : FuncData} {N ps : List Str} {k : Nat} {ar : ι → List Sl} {pre : ι → Prop} {t : Ty ρ} {post : ι → ρ → Prop} (F : Fun K x qual st f fd) (S : FnScope N ps (defScope st)) (n : Nat)
    (hn : N.length = ps.length + n) (hl : ∀ i, (ar i).length = ps.length)
    (hb : ∀ (cdv : Value) (A : Around) (outer : List Env) (s : Shared) (H : Hp) (E : XK), Room k (A.deeper (envOfC qual (defScope st) s.heap.objs.size f cdv)) → ∀ i, pre i →
      B (cxOf CX0 P w K mg base N qual (defScope st) f cdv A outer s H E).nox (ar i ++ List.replicate n .un) (defBody st) (RetE K t (post i))) : FnOk P w K mg base CX0 (k + 1) f fd ps (spE K ar pre t post) := by
  refine F.ok S (fun vs H Q E h => ?_) (fun cdv A outer s H vs Q E hr h => ⟨_, pss_w, ?_⟩)
  · obtain ⟨i, M, _, r, _⟩ := h
    rw [reps_len r, hl]
  · obtain ⟨i, M, m, r, hp, q⟩ := h
    refine (hb cdv A outer s H E hr i hp).run _ (fun _ _ _ => False) (st_start m r (by rw [hl]; exact hn)) takes_false ⟨fun S' h => h.elim, fun n2 ⟨y, hy, h⟩ => q y hy _ _ _ n2 h, fun _ h => h.elim, fun _ h => h.elim, fun _ h => h.elim⟩
end
section
variable {α β γ ι ρ : Type} {X : Cx} {G : List Sl} {a b c e : Expr} {es rest : List Expr} {s : Ty α} {t : Ty β} {u : Ty γ} {x : α} {y : β} {z : γ} {pos : Pos} {k : Nat} {R : Out}
/-- an expression of which only this is known -/
structure EX (X : Cx) (G : List Sl) (e : Expr) (t : Ty α) (P : α → Prop) : Prop where
  run : ∀ {M0 H0 M H : Hp} {σ : L2.St}, St X.K M0 H0 M H σ G → ∀ (Q : VK), (∀ y, P y → ∀ v M' H', Nx M H M' H' → t.rep X.K M' v y → Q v H') → wE X e σ H Q
structure EAX (X : Cx) (G : List Sl) (es : List Expr) (P : List Sl → Prop) : Prop where
  run : ∀ {M0 H0 M H : Hp} {σ : L2.St}, St X.K M0 H0 M H σ G → ∀ (Q : List V → Hp → Prop), (∀ ss, P ss → ∀ vs M' H', Nx M H M' H' → Reps X.K M' vs ss → Q vs H') → wA X es σ H Q
theorem E.toX {P : α → Prop} (h : E X G e s x) (p : P x) : EX X G e s P := ⟨fun S Q k => h.run S Q fun v M' H' n r => k x p v M' H' n r⟩
theorem EX.weak {P Q : α → Prop} (h : EX X G e s P) (q : ∀ y, P y → Q y) : EX X G e s Q := ⟨fun S R k => h.run S R fun y p => k y (q y p)⟩
theorem eax_nil : EAX X G [] (fun ss => ss = []) := ⟨fun {M0 H0 M H σ} S Q k => ⟨_, pa_nil, k [] rfl [] M H (Nx.refl S.sub) .nil⟩⟩
theorem eax_cons {P : α → Prop} {P' : List Sl → Prop} (h : EX X G e s P) (hr : EAX X G es P') (hs : starEach (e :: es) X.env = (false, eval e X.env) :: starEach es X.env := by rfl) : EAX X G (e :: es) (fun ss => ∃ y r, P y ∧ P' r ∧ ss = .vl s y :: r) := ⟨fun S Q k =>
  ⟨_, pa_cons pe_w pa_w hs, h.run S _ fun y py v M1 H1 n1 r1 => hr.run (S.next n1) _ fun ss ps vs M2 H2 n2 r2 => k _ ⟨y, ss, py, ps, rfl⟩ _ M2 H2 (n1.trans n2) (.cons (s.ext n2.vx r1) r2)⟩⟩
/-- a value first, the rest exact -/
theorem EA.toX {ss : List Sl} (h : EA X G es ss) : EAX X G es (fun r => r = ss) := ⟨fun S Q k => h.run S Q fun vs M' H' n r => k ss rfl vs M' H' n r⟩
theorem ex_call {P : Program} {w : World} {K : Fg} {mg : Str → Option Value} {base : Heap} {n : Str} {ps : List Str} {ar : ι → List Sl} {pre : ι → Prop} {tr : Ty ρ} {post : ι → ρ → Prop} {PA : List Sl → Prop} {PR : ρ → Prop} {p : Pos} (C : Fn P w K mg base CX0 k n ps (spE K ar pre tr post)) (hr : Room k X.A) (ha : EAX X G (e :: es) PA) (hp : ∀ ss, PA ss → ∃ i, ar i = ss ∧ pre i ∧ ∀ y, post i y → PR y)
    (hg : Gl X n := by rfl) (hdb : (n == ("__debug__" : Str)) = false := by decide) (he : starEach (e :: es) X.env = (false, eval e X.env) :: starEach es X.env := by rfl) (hpl : (backTo pos (starEach es X.env)).any (·.1) = false := by rfl)
    (xP : X.prog = P := by rfl) (xw : X.w = w := by rfl) (xK : X.K = K := by rfl) (xm : X.mg = mg := by rfl) (xb : X.base = base := by rfl) : EX X G (.Call (.Name n p) (e :: es) [] pos) tr PR := ⟨fun S Q q => by
  subst xP xw xK xm xb
  obtain ⟨f, fd, hm, hk, hb, F⟩ := C.ex
  refine ⟨_, pe_call F hr hg hm hk hb .nil pass0 pa_w hdb he hpl, ha.run S _ fun ss pss vs M1 H1 n1 r1 => ?_⟩
  rw [List.append_nil]
  obtain ⟨i, e1, e2, e3⟩ := hp ss pss
  exact ⟨i, M1, n1.sub, by rw [e1]; exact r1, e2, fun y py v M2 H2 n2 r2 => q y (e3 y py) v M2 H2 (n1.trans n2) r2⟩⟩
/-- the same, of a def whose answer is known, at arguments of which less is known -/
theorem ex_callG {P : Program} {w : World} {K : Fg} {mg : Str → Option Value} {base : Heap} {n : Str} {ps : List Str} {ar : ι → List Sl} {pre : ι → Prop} {tr : Ty ρ} {out : ι → ρ} {PA : List Sl → Prop} {PR : ρ → Prop} {p : Pos} (C : Fn P w K mg base CX0 k n ps (spG K ar pre tr out)) (hr : Room k X.A) (ha : EAX X G (e :: es) PA) (hp : ∀ ss, PA ss → ∃ i, ar i = ss ∧ pre i ∧ PR (out i))
    (hg : Gl X n := by rfl) (hdb : (n == ("__debug__" : Str)) = false := by decide) (he : starEach (e :: es) X.env = (false, eval e X.env) :: starEach es X.env := by rfl) (hpl : (backTo pos (starEach es X.env)).any (·.1) = false := by rfl)
    (xP : X.prog = P := by rfl) (xw : X.w = w := by rfl) (xK : X.K = K := by rfl) (xm : X.mg = mg := by rfl) (xb : X.base = base := by rfl) : EX X G (.Call (.Name n p) (e :: es) [] pos) tr PR := ⟨fun S Q q => by
  subst xP xw xK xm xb
  obtain ⟨f, fd, hm, hk, hb, F⟩ := C.ex
  refine ⟨_, pe_call F hr hg hm hk hb .nil pass0 pa_w hdb he hpl, ha.run S _ fun ss pss vs M1 H1 n1 r1 => ?_⟩
  rw [List.append_nil]
  obtain ⟨i, e1, e2, e3⟩ := hp ss pss
  exact ⟨i, M1, n1.sub, by rw [e1]; exact r1, e2, fun v M2 H2 n2 r2 => q (out i) e3 v M2 H2 (n1.trans n2) r2⟩⟩
theorem s_setX (k : Nat) {n : Str} {pos' : Pos} {P : α → Prop} (he : EX X G e s P) (h : ∀ x, P x → R.nx (G.set k (.vl s x))) (hN : X.N.Nodup) (hi : X.N[k]? = some n := by rfl) (hx : Loc X.env.scope n := by first | exact Or.inl rfl | exact Or.inr rfl)
    (hs : swapsWith e (some (.Name n pos')) pos.line X.env = pure false := by rfl) (hf : X.fn n = true ∨ X.env.scope.names.lookup n = some .local := by first | exact .inl rfl | exact .inr rfl) : S1 X G (.Assign [.Name n pos'] e pos) R := ⟨fun D E S tk f =>
  ⟨_, ps_set hN hi hx pe_w hs hf, he.run S _ fun y py v M1 H1 n1 r1 => f.nx ((S.next n1).set (s := .vl s y) r1) (h y py)⟩⟩
theorem s_retX {P : α → Prop} (he : EX X G e s P) (h : ∀ y, P y → ∀ M v, s.rep X.K M v y → R.rt M v) : S1 X G (.Return (some e) pos) R := ⟨fun D E S tk f =>
  ⟨_, ps_ret pe_w, he.run S _ fun y py v M1 H1 n1 r1 => f.rt (S.nx.trans n1) (h y py M1 v r1)⟩⟩
end
end TL

namespace TL
open PySem PySem.Spec PyProof.Rows L2
/-! ### a comprehension within a comprehension -/
theorem look_rel {env : Env} {x : Str} : ∀ {ns : List (Str × NameKind)}, (ns.lookup x = some .cell ∨ ns.lookup x = some .free) →
    ((ns.map fun (n, k) => if (k == NameKind.free && env.scope.kind == .function && env.kindOf n == some .cell) then (n, NameKind.cell) else (n, k)).lookup x = some .cell ∨ (ns.map fun (n, k) => if (k == NameKind.free && env.scope.kind == .function && env.kindOf n == some .cell) then (n, NameKind.cell) else (n, k)).lookup x = some .free)
  | [], h => by simp at h
  | (n, k) :: r, h => by
    rw [List.map_cons]
    dsimp only
    cases hx : x == n with
    | true =>
      simp only [List.lookup_cons, hx] at h
      by_cases hc : (k == NameKind.free && env.scope.kind == .function && env.kindOf n == some .cell) = true
      · rw [if_pos hc]; simp only [List.lookup_cons, hx]; first | exact .inl trivial | exact .inl rfl
      · rw [if_neg hc]; simp only [List.lookup_cons, hx]; exact h
    | false =>
      simp only [List.lookup_cons, hx] at h
      have ih := look_rel (env := env) h
      by_cases hc : (k == NameKind.free && env.scope.kind == .function && env.kindOf n == some .cell) = true
      · rw [if_pos hc]; simp only [List.lookup_cons, hx]; exact ih
      · rw [if_neg hc]; simp only [List.lookup_cons, hx]; exact ih
theorem blkIn {N : List Str} {outer scope : Scope} {own : List (Str × Nat)} {env : Env} {cl : List (Str × Addr)} {C : Addr} (h : blkC N outer scope own = true) : BlkOk N (compEnvC outer cl C env).scope scope own := by
  have b := blkOk_by h
  exact ⟨b.kind, b.uniq, b.ix, fun y hy e => look_rel (b.free y hy e), b.own⟩
end TL

namespace TL
open PySem PySem.Spec PyProof.Rows L2
/-! ### defs that return a new list, which the caller may change -/
def spN {ι α : Type} (K : Fg) (ar : ι → List Sl) (pre : ι → Prop) (t : Ty α) (post : ι → List α → Prop) : Sp := fun vs H Q _ =>
  ∃ (i : ι) (M : Hp), Same M H ∧ Reps K M vs (ar i) ∧ pre i ∧ ∀ y, post i y → ∀ p M' H' us, Nx M H M' H' → H p = none → M' p = none → H' p = some (.lst us) → Paired (t.rep K M') us y → Q (.ref p) H'
structure BN {α : Type} (X : Cx) (G : List Sl) (sts : List Stmt) (t : Ty α) (P : List α → Prop) : Prop where
  run : ∀ {M0 H0 M H : Hp} {σ : L2.St} (D : Ends) (E : XK), St X.K M0 H0 M H σ G → Takes X (fun c d _ H => E c d H) → (∀ y, P y → ∀ p M' H' us, Nx M0 H0 M' H' → H0 p = none → M' p = none → H' p = some (.lst us) → Paired (t.rep X.K M') us y → D.rt (.ref p) H') → wS X sts D σ H
structure ELX {α : Type} (X : Cx) (G : List Sl) (e : Expr) (t : Ty α) (P : List α → Prop) : Prop where
  run : ∀ {M0 H0 M H : Hp} {σ : L2.St}, St X.K M0 H0 M H σ G → ∀ (Q : VK), (∀ y, P y → ∀ p M' H' us, Nx M H M' H' → H p = none → M' p = none → H' p = some (.lst us) → Paired (t.rep X.K M') us y → Q (.ref p) H') → wE X e σ H Q
section
variable {α β ι : Type} {X : Cx} {G : List Sl} {a b e : Expr} {es : List Expr} {st : Stmt} {rest : List Stmt} {t : Ty α} {s : Ty β} {P : List α → Prop} {xs : List α} {pos : Pos} {k : Nat} {R : Out}
theorem EL.toX (h : EL X G e t xs) (p : P xs) : ELX X G e t P := ⟨fun S Q k => h.run S Q fun q M' H' us n h1 h2 h3 h4 => k xs p q M' H' us n h1 h2 h3 h4⟩
theorem ELX.toE (h : ELX X G e t P) : EX X G e (tLst t) P := ⟨fun S Q k => h.run S Q fun y py p M' H' us n hp mp hh r =>
  k y py (.ref p) (upd M' p (.lst us)) H' ⟨n.ex, n.vx.trans (same_new mp), fun b o q => by
    by_cases z : b = p
    · subst z; rw [upd_same] at q; cases q; exact hh
    · rw [upd_ne z] at q; exact n.sub b o q, fun b n1 n2 => by
    rw [upd_ne (fun z => n2 (by rw [z]; exact hp))]; exact n.fr b n1 n2⟩ ⟨p, us, rfl, upd_same, paired_imp (fun _ _ q => t.ext (same_new mp) q) r⟩⟩
theorem bn_cons (h : S1 X G st { nx := fun G' => BN X G' rest t P, rt := fun _ _ => False }) : BN X G (st :: rest) t P := ⟨fun D E S tk f =>
  ⟨_, pss_cons ps_w pss_w, h.run { D with nx := wS X rest D } (fun _ _ _ => False) S takes_false ⟨fun S' hb => hb.run D E S' tk f, fun _ h => h.elim, fun _ h => h.elim, fun _ h => h.elim, fun _ h => h.elim⟩⟩⟩
theorem bn_cut (N : List Sl → Prop) (h : S1 X G st { nx := N, rt := fun _ _ => False }) (k : ∀ G', N G' → BN X G' rest t P) : BN X G (st :: rest) t P :=
  bn_cons ⟨fun D E S tk f => h.run D E S tk ⟨fun S' hn => f.nx S' (k _ hn), f.rt, f.bk, f.ct, f.xc⟩⟩
theorem bn_ret (h : ELX X G e t P) : BN X G [.Return (some e) pos] t P := ⟨fun {M0 H0 M H σ} D E S tk f =>
  ⟨_, pss_one (ps_ret pe_w), h.run S _ fun y py p M' H' us n h1 h2 h3 h4 => f y py p M' H' us (S.nx.trans n) (S.nx.ex.free h1) h2 h3 h4⟩⟩
theorem bn_retOwn (k : Nat) {n : Str} {p1 : Pos} (h0 : G[k]? = some (.ow t xs)) (h : P xs) (hi : X.N[k]? = some n := by rfl)
    (hv : Vis X.env.scope n := by first | exact Or.inl rfl | exact Or.inr (Or.inl rfl) | exact Or.inr (Or.inr rfl))
    (hd : (n == ("__debug__" : Str)) = false := by decide) (hcd : (n == ("__classdict__" : Str)) = false := by decide) : BN X G [.Return (some (.Name n p1)) pos] t P := ⟨fun {M0 H0 M H σ} D E S tk f => by
  obtain ⟨A, q1, _⟩ := S.sl
  obtain ⟨o, q, a, _, e, f0, hm, vs, hh, pr⟩ := q1 k _ h0
  subst e
  exact ⟨_, pss_one (ps_ret (pe_var hi hv hd hcd)), .ref a, q, f xs h a M H vs S.nx f0 hm hh pr⟩⟩
theorem bn_freeze (k : Nat) {s : Ty β} {xs : List β} (h : G[k]? = some (.ow s xs)) (hb : BN X (G.set k (.vl (tLst s) xs)) rest t P) : BN X G rest t P := ⟨fun D E S tk f => by
  obtain ⟨a, vs, _, _, _, S'⟩ := S.freeze h
  exact hb.run D E S' tk f⟩
theorem elx_call {P0 : Program} {w : World} {K : Fg} {mg : Str → Option Value} {base : Heap} {n : Str} {ps : List Str} {ar : ι → List Sl} {pre : ι → Prop} {post : ι → List α → Prop} {PA : List Sl → Prop} {p : Pos} (C : Fn P0 w K mg base CX0 k n ps (spN K ar pre t post)) (hr : Room k X.A) (ha : EAX X G (e :: es) PA) (hp : ∀ ss, PA ss → ∃ i, ar i = ss ∧ pre i ∧ ∀ y, post i y → P y)
    (hg : Gl X n := by rfl) (hdb : (n == ("__debug__" : Str)) = false := by decide) (he : starEach (e :: es) X.env = (false, eval e X.env) :: starEach es X.env := by rfl) (hpl : (backTo pos (starEach es X.env)).any (·.1) = false := by rfl)
    (xP : X.prog = P0 := by rfl) (xw : X.w = w := by rfl) (xK : X.K = K := by rfl) (xm : X.mg = mg := by rfl) (xb : X.base = base := by rfl) : ELX X G (.Call (.Name n p) (e :: es) [] pos) t P := ⟨fun S Q q => by
  subst xP xw xK xm xb
  obtain ⟨f, fd, hm, hk, hb, F⟩ := C.ex
  refine ⟨_, pe_call F hr hg hm hk hb .nil pass0 pa_w hdb he hpl, ha.run S _ fun ss pss vs M1 H1 n1 r1 => ?_⟩
  rw [List.append_nil]
  obtain ⟨i, e1, e2, e3⟩ := hp ss pss
  exact ⟨i, M1, n1.sub, by rw [e1]; exact r1, e2, fun y py p M2 H2 us n2 h1 h2 h3 h4 => q y (e3 y py) p M2 H2 us (n1.trans n2) (n1.ex.free h1) h2 h3 h4⟩⟩
theorem s_ownX (k : Nat) {n : Str} {pos' : Pos} (he : ELX X G e t P) (h : ∀ xs, P xs → R.nx (G.set k (.ow t xs))) (hN : X.N.Nodup) (hi : X.N[k]? = some n := by rfl) (hx : Loc X.env.scope n := by first | exact Or.inl rfl | exact Or.inr rfl)
    (hs : swapsWith e (some (.Name n pos')) pos.line X.env = pure false := by rfl) (hf : X.fn n = true ∨ X.env.scope.names.lookup n = some .local := by first | exact .inl rfl | exact .inr rfl) : S1 X G (.Assign [.Name n pos'] e pos) R := ⟨fun D E S tk f =>
  ⟨_, ps_set hN hi hx pe_w hs hf, he.run S _ fun y py p M1 H1 vs n1 hp mp hh r1 => f.nx (S.setOwn n1 hp mp hh r1) (h y py)⟩⟩
end
section
variable {P : Program} {w : World} {K : Fg} {mg : Str → Option Value} {base : Heap} {ι α : Type}
theorem fn_okN {x qual : Str} {st : Stmt} {f : Addr} {fd : FuncData} {N ps : List Str} {k : Nat} {ar : ι → List Sl} {pre : ι → Prop} {t : Ty α} {post : ι → List α → Prop} (F : Fun K x qual st f fd) (S : FnScope N ps (defScope st)) (n : Nat)
    (hn : N.length = ps.length + n) (hl : ∀ i, (ar i).length = ps.length)
    (hb : ∀ (cdv : Value) (A : Around) (outer : List Env) (s : Shared) (H : Hp) (E : XK), Room k (A.deeper (envOfC qual (defScope st) s.heap.objs.size f cdv)) → ∀ i, pre i →
      BN (cxOf CX0 P w K mg base N qual (defScope st) f cdv A outer s H E).nox (ar i ++ List.replicate n .un) (defBody st) t (post i)) : FnOk P w K mg base CX0 (k + 1) f fd ps (spN K ar pre t post) := by
  refine F.ok S (fun vs H Q E h => ?_) (fun cdv A outer s H vs Q E hr h => ⟨_, pss_w, ?_⟩)
  · obtain ⟨i, M, _, r, _⟩ := h
    rw [reps_len r, hl]
  · obtain ⟨i, M, m, r, hp, q⟩ := h
    exact (hb cdv A outer s H E hr i hp).run _ (fun _ _ _ => False) (st_start m r (by rw [hl]; exact hn)) takes_false fun y py p M' H' us n h1 h2 h3 h4 => q y py p M' H' us n h1 h2 h3 h4
end
end TL

namespace TL
open PySem PySem.Spec PyProof.Rows L2
section
variable {X : Cx} {G : List Sl} {a : Expr} {pos : Pos} {i : Int}
def firstN (i : Int) : List Int := (List.range i.toNat).map fun k : Nat => (k : Int)
theorem rgV_first (i : Int) : rgV 0 i = (firstN i).map V.int := by
  unfold rgV firstN
  rw [List.map_map, Int.sub_zero]
  apply List.map_congr_left
  intro k _
  show V.int (0 + (k : Int)) = V.int (k : Int)
  rw [Int.zero_add]
/-- list(range(i)) -/
theorem el_listR {p p1 p2 : Pos} (hcm : X.calm = true) (hl : X.mg "list" = none) (hm : X.mg "range" = none) (ha : E X G a tI i) (hi : -1000000 ≤ i ∧ i ≤ 1000000) (hg : Gl X "list" := by rfl) (hg2 : Gl X "range" := by rfl)
    (he : starEach [a] X.env = (false, eval a X.env) :: starEach [] X.env := by rfl) (he2 : starEach [.Call (.Name "range" p1) [a] [] p2] X.env = (false, eval (.Call (.Name "range" p1) [a] [] p2) X.env) :: starEach [] X.env := by rfl) : EL X G (.Call (.Name "list" p) [.Call (.Name "range" p1) [a] [] p2] [] pos) tI (firstN i) := ⟨fun {M0 H0 M H σ} S Q k =>
  ⟨_, pe_listRg hcm hg hl (prg_1 hg2 hm pe_w he) he2, ha.run S _ fun v M1 H1 n1 r1 => ⟨i, r1, by
    refine ⟨?_, fun q hq => ?_⟩
    · unfold RgOk; refine ⟨by omega, by omega, by omega, by omega, ?_⟩
      have : (sizeLine : Nat) ≥ 1000000 := by decide
      omega
    · rw [rgV_first]
      exact k q M1 _ _ ⟨n1.ex.trans (same_new hq), n1.vx, n1.sub.trans (same_new hq), n1.fr⟩ (n1.ex.free hq) (same_none n1.sub hq) upd_same (pair_ints _)⟩⟩⟩
end
end TL

namespace TL
open PySem PySem.Spec PyProof.Rows L2
/-- [a, b], of b only a property is known -/
theorem elx_two {α : Type} {X : Cx} {G : List Sl} {a b : Expr} {pos : Pos} {t : Ty α} {x : α} {Q : α → Prop} {P : List α → Prop} (ha : E X G a t x) (hb : EX X G b t Q) (h : ∀ y, Q y → P [x, y]) (hs : starEach [a, b] X.env = (false, eval a X.env) :: starEach [b] X.env := by rfl) (hs2 : starEach [b] X.env = (false, eval b X.env) :: starEach [] X.env := by rfl) : ELX X G (.List [a, b] pos) t P := ⟨fun {M0 H0 M H σ} S R k =>
  ⟨_, pe_lst (pa_cons pe_w (pa_cons pe_w pa_nil hs2) hs), ha.run S _ fun v M1 H1 n1 r1 => hb.run (S.next n1) _ fun y qy w M2 H2 n2 r2 => ⟨by show 2 ≤ sizeLine; decide, fun p hp =>
    k [x, y] (h y qy) p M2 _ [v, w] ⟨(n1.trans n2).ex.trans (same_new hp), (n1.trans n2).vx, (n1.trans n2).sub.trans (same_new hp), (n1.trans n2).fr⟩ ((n1.trans n2).ex.free hp) (same_none n2.sub hp) upd_same (.cons (t.ext n2.vx r1) (.cons r2 .nil))⟩⟩⟩
end TL

namespace TL
open PySem PySem.Spec PyProof.Rows L2
section
variable {α β γ : Type} {X : Cx} {G : List Sl} {a b c e ib : Expr} {es rest : List Expr} {s : Ty α} {t : Ty β} {u : Ty γ} {x : α} {y : β} {z : γ} {pos : Pos} {i j : Int} {xs ys : List α} {p q : Bool}
/-- xs[i], xs a list of the frame's own -/
theorem e_ixOw (m : Nat) {n : Str} {p1 : Pos} (h0 : G[m]? = some (.ow s xs)) (hib : E X G ib tI i) (h : atI xs i = some x) (hi : X.N[m]? = some n := by rfl)
    (hv : Vis X.env.scope n := by first | exact Or.inl rfl | exact Or.inr (Or.inl rfl) | exact Or.inr (Or.inr rfl))
    (hd : (n == ("__debug__" : Str)) = false := by decide) (hcd : (n == ("__classdict__" : Str)) = false := by decide) (hs : PlainIx ib := by exact fun _ _ => rfl) : E X G (.Subscript (.Name n p1) ib pos) s x := ⟨fun {M0 H0 M H σ} S Q k => by
  obtain ⟨a0, vs0, e0, hh0, _, pr0, _⟩ := S.putOwn (ys := xs) h0
  refine ⟨_, pe_ix ix_list (pe_var hi hv hd hcd) pe_w hs, .ref a0, e0, hib.run S _ fun w M2 H2 n2 r2 => ?_⟩
  obtain ⟨v', g1, g2⟩ := atI_paired pr0 h
  exact ⟨a0, vs0, i, v', rfl, r2, SqL.of (n2.ex _ _ hh0), g1, k v' M2 H2 n2 (s.ext n2.vx g2)⟩⟩
end
end TL

namespace TL
open PySem PySem.Spec PyProof.Rows L2
/-! ### sorted, of tuples of ints of any size -/
def lexI : List Int → List Int → Bool
  | [], [] => false
  | [], _ :: _ => true
  | _ :: _, [] => false
  | a :: as, b :: bs => if a = b then lexI as bs else decide (a < b)
theorem lexI_cons {a b : Int} {as bs : List Int} : lexI (a :: as) (b :: bs) = if a = b then lexI as bs else decide (a < b) := rfl
theorem lexI_asym : ∀ x y : List Int, lexI x y = true → lexI y x = false
  | [], [], h => by cases h
  | [], _ :: _, _ => rfl
  | _ :: _, [], h => by cases h
  | a :: as, b :: bs, h => by
    rw [lexI_cons] at h ⊢
    by_cases e : a = b
    · rw [if_pos e] at h; rw [if_pos e.symm]; exact lexI_asym as bs h
    · rw [if_neg e] at h; rw [if_neg (Ne.symm e)]
      have h := of_decide_eq_true h
      exact decide_eq_false (by omega)
theorem lexI_anti : ∀ x y : List Int, lexI x y = false → lexI y x = false → x = y
  | [], [], _, _ => rfl
  | [], _ :: _, h, _ => by cases h
  | _ :: _, [], _, h => by cases h
  | a :: as, b :: bs, h1, h2 => by
    rw [lexI_cons] at h1 h2
    by_cases e : a = b
    · rw [if_pos e] at h1; rw [if_pos e.symm] at h2; rw [e, lexI_anti as bs h1 h2]
    · rw [if_neg e] at h1; rw [if_neg (Ne.symm e)] at h2
      have h1 := of_decide_eq_false h1
      have h2 := of_decide_eq_false h2
      omega
theorem lexI_tr : ∀ x y z : List Int, lexI y x = false → lexI z y = false → lexI z x = false
  | [], [], z, _, h2 => h2
  | _ :: _, [], [], h1, _ => by cases h1
  | _ :: _, [], _ :: _, h1, _ => by cases h1
  | [], _ :: _, [], _, _ => rfl
  | [], _ :: _, _ :: _, _, _ => rfl
  | _ :: _, _ :: _, [], _, h2 => by cases h2
  | a :: as, b :: bs, c :: cs, h1, h2 => by
    rw [lexI_cons] at h1 h2 ⊢
    by_cases e : b = a
    · rw [if_pos e] at h1
      by_cases f : c = b
      · rw [if_pos f] at h2; rw [if_pos (f.trans e)]; exact lexI_tr as bs cs h1 h2
      · rw [if_neg f] at h2
        rw [if_neg (fun q => f (q.trans e.symm)), ← e]; exact h2
    · rw [if_neg e] at h1
      have h1 := of_decide_eq_false h1
      by_cases f : c = b
      · rw [if_neg (fun q => e (f.symm.trans q)), f]; exact decide_eq_false h1
      · rw [if_neg f] at h2
        have h2 := of_decide_eq_false h2
        rw [if_neg (by omega)]
        exact decide_eq_false (by omega)
theorem swo_lexI {α : Type} (k : α → List Int) : SrtO.Swo fun v u => lexI (k v) (k u) := ⟨fun x y => lexI_asym _ _, fun x y z => lexI_tr _ _ _⟩
section
variable {prog : Program} {w : World} {A : Around} {E : Value → Shared → Prop} {s : Shared}
theorem kat_lexI {b : Bool} {Q : Bool → Shared → Prop} {xs : List Value} {ns : List Int} (hx : IntsAre xs ns) : ∀ {ys : List Value} {ms : List Int} (i : Nat), IntsAre ys ms → Q (lexI ns ms) s → PySem.W.KatLex prog w A b (decide (ns.length < ms.length)) Q (xs.zip ys) i s := by
  induction hx with
  | nil =>
    intro ys ms i hy h
    cases hy with
    | nil => exact PySem.W.kat_nil h
    | cons q u hy => exact PySem.W.kat_nil (by simpa [lexI] using h)
  | @cons p t xs ns hx ih =>
    intro ys ms i hy h
    cases hy with
    | nil => exact PySem.W.kat_nil (by simpa [lexI] using h)
    | @cons q u ys ms hy =>
      show PySem.W.KatLex prog w A b _ Q ((Value.int p t, Value.int q u) :: xs.zip ys) i s
      have el : decide ((p :: ns).length < (q :: ms).length) = decide (ns.length < ms.length) := decide_eq_decide.mpr (by simp)
      rw [el]
      rw [lexI_cons] at h
      refine PySem.W.kat_cons (wpAny_eqBool_int ?_)
      by_cases e : p = q
      · rw [if_pos e] at h
        subst e
        rw [beq_self_eq_true]
        exact PySem.W.kat_yes (ih (i + 1) hy h)
      · rw [if_neg e] at h
        rw [show (p == q) = false from beq_eq_false_iff_ne.mpr e]
        exact PySem.W.kat_no (TS.oneLt_ints _ h)
theorem waysCmp {vs : List Value} {k : Value → List Int} (hp : ∀ v ∈ vs, TS.TupInts s.heap v (k v)) : SrtO.Cmp prog w A s (tuples' true) (fun p => p.1 ∈ vs) (SrtO.lt2 fun v u => lexI (k v) (k u)) := by
  intro p q hm hm'
  have h1 := hp _ hm
  have h2 := hp _ hm'
  show wpAny (model prog w) A (keyLt' (tuples' true) p.1 q.1) (fun r s' => s' = s ∧ r = lexI (k p.1) (k q.1)) (fun _ _ => False) s
  generalize k p.1 = ns at h1 ⊢
  generalize k q.1 = ms at h2 ⊢
  obtain ⟨a, xs, e1, ⟨o, ho, hc, n, hdt⟩, i⟩ := h1
  obtain ⟨a', ys, e2, ⟨o', ho', hc', n', hdt'⟩, i'⟩ := h2
  rw [e1, e2]
  refine PySem.W.kat_lt ho hdt ho' hdt' ?_
  have sz : decide (xs.size < ys.size) = decide (ns.length < ms.length) := by
    have l1 := i.length
    have l2 := i'.length
    rw [Array.length_toList] at l1 l2
    rw [l1, l2]
  rw [sz]
  exact kat_lexI i 0 i' ⟨rfl, rfl⟩
theorem firstsW {h : Heap} {k : Value → List Int} : ∀ {vs : List Value}, (∀ v ∈ vs, TS.TupInts h v (k v) ∧ k v ≠ []) → ∃ fs : List Value, PySem.W.KatTups h vs fs ∧ fs.length = vs.length ∧ ∀ f ∈ fs, ∃ x t, f = Value.int x t
  | [], _ => ⟨[], PySem.W.KatTups.nil, rfl, fun _ hm => by simp at hm⟩
  | v :: vs, hp => by
    obtain ⟨fs, h1, h2, h3⟩ := firstsW (vs := vs) fun v' hm => hp v' (List.mem_cons_of_mem _ hm)
    obtain ⟨hv, hne⟩ := hp v (List.mem_cons_self ..)
    generalize k v = ns at hv hne
    obtain ⟨a, xs, rfl, ⟨o, ho, hc, n, hdt⟩, i⟩ := hv
    obtain ⟨y, ys, e⟩ : ∃ y ys, xs.toList = y :: ys := by
      cases q : xs.toList with
      | nil =>
        rw [q] at i
        cases i
        exact absurd rfl hne
      | cons y ys => exact ⟨y, ys, rfl⟩
    obtain ⟨m, t, hy⟩ := i.all y (by rw [e]; exact List.mem_cons_self ..)
    refine ⟨y :: fs, PySem.W.KatTups.cons ho hc hdt ?_ h1, by simp [h2], ?_⟩
    · rw [← Array.getElem?_toList, e]; rfl
    · intro f hf
      rcases List.mem_cons.mp hf with rfl | hf
      · exact ⟨m, t, hy⟩
      · exact h3 f hf
theorem sortableW {a : Addr} {vs : List Value} {k : Value → List Int} (h0 : 0 < vs.length) (hp : ∀ v ∈ vs, TS.TupInts s.heap v (k v) ∧ k v ≠ []) (ha : ∀ o, s.heap.get? a = some o → o.cls ≠ .type "tuple") : SrtO.SortableO prog w A s a vs fun v u => lexI (k v) (k u) := by
  intro h' keep
  have hp' : ∀ v ∈ vs, TS.TupInts h' v (k v) ∧ k v ≠ [] := fun v hm => ⟨(hp v hm).1.keeps fun b o e c => keep b o (fun z => by subst z; exact ha o e c) e, (hp v hm).2⟩
  obtain ⟨fs, h1, h2, h3⟩ := firstsW hp'
  refine ⟨tuples' true, fun Q E hq => ?_, waysCmp fun v hm => (hp' v hm).1⟩
  refine PySem.W.kat_kind (T := .type "int") h1 (by omega) (fun f hm => ?_) (by rfl) ?_
  · obtain ⟨x, t, rfl⟩ := h3 f hm
    exact PySem.W.Looks.now
  · have e : (Value.type "int" != Value.type "tuple") = true := by first | decide +kernel | rfl | decide
    rw [e]
    exact hq
theorem sortedW {l : Addr} {vs : List Value} {k : Value → List Int} {Q : Value → Shared → Prop} (hl : s.heap.IsList l vs.toArray) (hz : vs.length ≤ sizeLine) (hp : ∀ v ∈ vs, TS.TupInts s.heap v (k v) ∧ k v ≠ [])
    (h : ∀ (h' : Heap) (d : Addr) (out : List Value), SrtO.Srtd (fun v u => lexI (k v) (k u)) out → SrtO.Stb (fun v u => lexI (k v) (k u)) out vs → (∀ b o, s.heap.get? b = some o → h'.get? b = some o) → s.heap.objs.size ≤ d → (∃ n, h'.get? d = some (seqObj "list" out.toArray n)) → Q (.ref d) { s with heap := h' }) :
    wpAny (model prog w) A (call (.builtin "sorted") [.ref l]) Q E s := by
  refine SrtO.sorted_ord (swo_lexI k) hl hz (fun h2 h₁ a ha kk => ?_) fun out hs hb => ?_
  · refine sortableW (s := { s with heap := h₁ }) (by omega) (fun v hm => ⟨(hp v hm).1.keeps fun b o e _ => (kk b o e).2, (hp v hm).2⟩) fun o e => ?_
    have e' : some o = some (seqObj "list" vs.toArray 0) := e.symm.trans ha
    cases e'
    intro c
    exact absurd (Value.type.inj c) (by decide)
  · exact h _ _ out hs hb (fun b o e => sortedAll_old e) (Nat.le_succ _) (sortedAll_at s.heap vs out.toArray)
end
/-- sorted(xs) of tuples of ints -/
def rSortW (K : Fg) : List V → Hp → VK → Prop := fun vs H Q => ∃ (a : Addr) (xs : List V) (kss : List (List Int)), vs = [V.ref a] ∧ SqL K H a xs ∧ Paired (fun x ns => TupI K H x ns ∧ ns ≠ []) xs kss ∧
  ∀ k : V → List Int, Paired (fun x ns => k x = ns) xs kss → ∀ ys p, SrtO.Srtd (fun x y => lexI (k x) (k y)) ys → ys.Perm xs → H p = none → Q (.ref p) (upd H p (.lst ys))
theorem paired_all {α β : Type} {F : α → β → Prop} : ∀ {l₁ : List α} {l₂ : List β}, Paired F l₁ l₂ → ∀ a ∈ l₁, ∃ b, F a b
  | _, _, .cons h t, a, ha => by
    rcases List.mem_cons.mp ha with z | z
    · subst z; exact ⟨_, h⟩
    · exact paired_all t a z
theorem paired_memR {α β : Type} {F G : α → β → Prop} : ∀ {l₁ : List α} {l₂ : List β}, Paired F l₁ l₂ → (∀ a b, b ∈ l₂ → F a b → G a b) → Paired G l₁ l₂
  | _, _, .nil, _ => .nil
  | _, _, .cons h t, f => .cons (f _ _ (by simp) h) (paired_memR t fun a b hb => f a b (by simp [hb]))
theorem cr_sortW {X : Cx} : CallR X (.builtin "sorted") (rSortW X.K) := by
  intro pins s σ H vs us Q I r h
  obtain ⟨a, xs, kss, rfl, hs, hx, q⟩ := h
  obtain ⟨its, rv, hl, hz⟩ := I.list hs
  rw [Vals.ref1 r]
  obtain ⟨e1, e2⟩ := bkV_refs rv fun x m => by
    obtain ⟨ns, ⟨t, e, _⟩, _⟩ := paired_all hx x m
    exact ⟨t, e⟩
  let kk : Value → List Int := fun u => TS.intsOf s.heap u
  let k : V → List Int := fun v => match v with | .ref t => TS.intsOf s.heap (.ref t) | _ => []
  have hk : Paired (fun x ns => k x = ns) xs kss := paired_imp (fun x ns hh => by
    obtain ⟨⟨t, e, ht⟩, _⟩ := hh
    subst e
    exact (tupI_raw I ht).ints) hx
  have hkb : ∀ u ∈ its, k (bkV u) = kk u := fun u hu => by
    obtain ⟨t, rfl⟩ := e2 u hu
    rfl
  refine sortedW (k := kk) hl.isList (by rw [← rv.length]; exact hz) (fun v hv => ?_) fun h' d out h1 h2 kp hd hn => ?_
  · obtain ⟨t, rfl⟩ := e2 v hv
    have hm : V.ref t ∈ xs := by rw [e1]; exact List.mem_map.mpr ⟨_, hv, rfl⟩
    obtain ⟨ns, ⟨t', e, ht⟩, hn⟩ := paired_all hx _ hm
    cases e
    have ti := tupI_raw I ht
    have : kk (.ref t) = ns := ti.ints
    rw [this]
    exact ⟨ti, hn⟩
  · have hmem : ∀ u ∈ out, u ∈ its := fun u hu => h2.perm.mem_iff.mp hu
    obtain ⟨n, hn⟩ := hn
    refine ⟨.ref d, upd H d (.lst (out.map bkV)), I.laid (t' := s.toks) kp hd ⟨?_, out, n, bkV_vals fun u hu => e2 u (hmem u hu), hn⟩, rfl, q k hk _ d ?_ ?_ (I.hok.fresh hd)⟩
    · rw [List.length_map, h2.perm.length_eq, ← rv.length]; exact hz
    · refine List.pairwise_map.mpr (h1.imp_of_mem fun {u v} hu hv hh => ?_)
      show lexI (k (bkV v)) (k (bkV u)) = false
      rw [hkb u (hmem u hu), hkb v (hmem v hv)]; exact hh
    · rw [e1]; exact h2.perm.map _
theorem paired_perm {α β : Type} {F : α → β → Prop} {l₁ m₁ : List α} (p : l₁.Perm m₁) : ∀ {l₂ : List β}, Paired F l₁ l₂ → ∃ m₂, l₂.Perm m₂ ∧ Paired F m₁ m₂ := by
  induction p with
  | nil => intro l₂ h; exact ⟨l₂, .refl _, h⟩
  | cons x _ ih =>
    intro l₂ h
    cases h with
    | cons h t =>
      obtain ⟨m₂, p1, p2⟩ := ih t
      exact ⟨_ :: m₂, p1.cons _, .cons h p2⟩
  | swap x y l =>
    intro l₂ h
    cases h with
    | cons h t =>
      cases t with
      | cons h' t => exact ⟨_ :: _ :: _, .swap _ _ _, .cons h' (.cons h t)⟩
  | trans _ _ ih1 ih2 =>
    intro l₂ h
    obtain ⟨m₂, p1, p2⟩ := ih1 h
    obtain ⟨n₂, q1, q2⟩ := ih2 p2
    exact ⟨n₂, p1.trans q1, q2⟩
theorem paired_and {α β : Type} {F G : α → β → Prop} : ∀ {l₁ : List α} {l₂ : List β}, Paired F l₁ l₂ → Paired G l₁ l₂ → Paired (fun a b => F a b ∧ G a b) l₁ l₂
  | _, _, .nil, .nil => .nil
  | _, _, .cons h t, .cons h' t' => .cons ⟨h, h'⟩ (paired_and t t')
theorem paired_mapR {α β γ : Type} {F : α → γ → Prop} {f : β → γ} : ∀ {l₁ : List α} {l₂ : List β}, Paired (fun a b => F a (f b)) l₁ l₂ → Paired F l₁ (l₂.map f)
  | _, _, .nil => .nil
  | _, _, .cons h t => .cons h (paired_mapR t)
theorem paired_unmapR {α β γ : Type} {F : α → γ → Prop} {f : β → γ} : ∀ {l₁ : List α} {l₂ : List β}, Paired F l₁ (l₂.map f) → Paired (fun a b => F a (f b)) l₁ l₂
  | _, [], h => by cases h; exact .nil
  | _, _ :: _, h => by
    cases h with
    | cons h t => exact .cons h (paired_unmapR t)
theorem paired_mem2 {α β : Type} {F : α → β → Prop} : ∀ {l₁ : List α} {l₂ : List β}, Paired F l₁ l₂ → ∀ b ∈ l₂, ∃ a ∈ l₁, F a b
  | _, _, .cons h t, b, hb => by
    rcases List.mem_cons.mp hb with z | z
    · subst z; exact ⟨_, List.mem_cons_self .., h⟩
    · obtain ⟨a, h1, h2⟩ := paired_mem2 t b z
      exact ⟨a, List.mem_cons_of_mem _ h1, h2⟩
theorem srtd_paired {α β : Type} {f : α → List Int} {g : β → List Int} : ∀ {l₁ : List α} {l₂ : List β}, Paired (fun a b => f a = g b) l₁ l₂ → SrtO.Srtd (fun x y => lexI (f x) (f y)) l₁ → SrtO.Srtd (fun x y => lexI (g x) (g y)) l₂
  | _, _, .nil, _ => .nil
  | _, _, .cons h t, s => by
    obtain ⟨s1, s2⟩ := List.pairwise_cons.mp s
    refine List.pairwise_cons.mpr ⟨fun b hb => ?_, srtd_paired t s2⟩
    obtain ⟨a, h1, h2⟩ := paired_mem2 t b hb
    show lexI (g b) (g _) = false
    rw [← h, ← h2]; exact s1 a h1
/-- xs sorted by keys that are lists of ints -/
def sortK {α : Type} (key : α → List Int) (xs : List α) : List α := xs.mergeSort fun a b => !lexI (key b) (key a)
theorem sortK_perm {α : Type} (key : α → List Int) (xs : List α) : (sortK key xs).Perm xs := List.mergeSort_perm _ _
theorem sortK_srtd {α : Type} (key : α → List Int) (xs : List α) : SrtO.Srtd (fun x y => lexI (key x) (key y)) (sortK key xs) := by
  refine (List.pairwise_mergeSort (le := fun a b => !lexI (key b) (key a)) (fun a b c h1 h2 => ?_) (fun a b => ?_) xs).imp fun h => by simpa using h
  · have h1 : lexI (key b) (key a) = false := by simpa using h1
    have h2 : lexI (key c) (key b) = false := by simpa using h2
    rw [lexI_tr _ _ _ h1 h2]; rfl
  · cases q : lexI (key b) (key a) with
    | false => rfl
    | true => rw [lexI_asym _ _ q]; rfl
theorem srtd_uniq {α : Type} {key : α → List Int} : ∀ {l m : List α}, l.Perm m → (∀ a ∈ l, ∀ b ∈ l, key a = key b → a = b) → SrtO.Srtd (fun x y => lexI (key x) (key y)) l → SrtO.Srtd (fun x y => lexI (key x) (key y)) m → l = m
  | [], m, p, _, _, _ => by rw [List.Perm.nil_eq p]
  | x :: l, m, p, hi, s1, s2 => by
    cases m with
    | nil => exact absurd p.length_eq (by simp)
    | cons y m =>
      obtain ⟨a1, a2⟩ := List.pairwise_cons.mp s1
      obtain ⟨b1, b2⟩ := List.pairwise_cons.mp s2
      have e : x = y := by
        refine hi x (List.mem_cons_self ..) y (p.mem_iff.mpr (List.mem_cons_self ..)) ?_
        have hy : y ∈ x :: l := p.mem_iff.mpr (List.mem_cons_self ..)
        have hx : x ∈ y :: m := p.mem_iff.mp (List.mem_cons_self ..)
        rcases List.mem_cons.mp hy with z | z
        · rw [z]
        · rcases List.mem_cons.mp hx with w | w
          · rw [w]
          · exact (lexI_anti _ _ (a1 y z) (b1 x w)).symm
      subst e
      rw [srtd_uniq ((List.perm_cons x).mp p) (fun a ha b hb => hi a (List.mem_cons_of_mem _ ha) b (List.mem_cons_of_mem _ hb)) a2 b2]
section
variable {α β γ : Type} {X : Cx} {G : List Sl} {a b c e ib : Expr} {es rest : List Expr} {s : Ty α} {t : Ty β} {u : Ty γ} {x : α} {y : β} {z : γ} {pos : Pos} {i j : Int} {xs ys : List α} {p q : Bool}
/-- sorted(xs), xs of tuples of ints, told by key -/
theorem el_sort {p : Pos} (key : α → List Int) (hk : ∀ M v x, s.rep X.K M v x → ∃ t, v = V.ref t ∧ SqT X.K M t ((key x).map V.int)) (hm : X.mg "sorted" = none) (ha : E X G a (tLst s) xs) (hne : ∀ x ∈ xs, key x ≠ []) (hi : ∀ x ∈ xs, ∀ y ∈ xs, key x = key y → x = y) (hg : Gl X "sorted" := by rfl) (he : starEach [a] X.env = (false, eval a X.env) :: starEach [] X.env := by rfl) : EL X G (.Call (.Name "sorted" p) [a] [] pos) s (sortK key xs) :=
  el_cb cr_sortW (ea_cons ha ea_nil he) hm (fun M H vs Q m r k => by
    obtain ⟨v, rfl, p, ws, e1, e2, e3⟩ := reps1 r
    refine ⟨p, ws, xs.map key, by rw [e1], SqL.of (m _ _ e2), paired_mapR (paired_imp (fun w x hh => hh) (paired_memR e3 fun w x hx hr => ?_)), fun kf hkf zs d h1 h2 hd => ?_⟩
    · obtain ⟨t, ht, h2⟩ := hk M w x hr
      exact ⟨⟨t, ht, sqT_ext m h2⟩, hne x hx⟩
    · obtain ⟨ys, q1, q2⟩ := paired_perm h2.symm (paired_and e3 (paired_unmapR hkf))
      have es : ys = sortK key xs := srtd_uniq (q1.symm.trans (sortK_perm key xs).symm) (fun a ha b hb => hi a (q1.mem_iff.mpr ha) b (q1.mem_iff.mpr hb)) (srtd_paired (paired_imp (fun _ _ hh => hh.2) q2) h1) (sortK_srtd key xs)
      rw [es] at q2
      exact k d M _ zs (nx_lay m hd) hd (same_none m hd) upd_same (paired_imp (fun _ _ hh => hh.1) q2)) (by decide +kernel) hg (by decide) (by decide) he
end
end TL

namespace TL
open PySem PySem.Spec PyProof.Rows L2
section
variable {α β γ : Type} {X : Cx} {G : List Sl} {a b c e ib : Expr} {es rest : List Expr} {s : Ty α} {t : Ty β} {u : Ty γ} {x : α} {y : β} {z : γ} {pos : Pos} {i j : Int} {xs ys : List α} {p q : Bool} {R : Out} {scope : Scope} {own : List (Str × Nat)} {n : Str} {pn : Pos}
/-- x in xs, of flat values told by f -/
structure FlatT (s : Ty α) (f : α → V) : Prop where
  is : ∀ {K : Fg} {M : Hp} {v : V} {x : α}, s.rep K M v x → v = f x
  flat : ∀ x, flatV (f x) = true
theorem flat_map {f : α → V} (h : FlatT s f) {K : Fg} {M : Hp} : ∀ {vs : List V} {xs : List α}, Paired (s.rep K M) vs xs → vs = xs.map f
  | _, _, .nil => rfl
  | _, _, .cons r p => by rw [List.map_cons, flat_map h p, h.is r]
theorem flat_all {f : α → V} (h : FlatT s f) : ∀ xs : List α, (xs.map f).all flatV = true
  | [] => rfl
  | x :: xs => by rw [List.map_cons, List.all_cons, flat_all h xs, h.flat]; rfl
theorem inV_flat {f : α → V} [DecidableEq α] (he : ∀ x y, eqV (f x) (f y) = decide (x = y)) (x : α) : ∀ xs : List α, inV (f x) (xs.map f) = decide (x ∈ xs)
  | [] => rfl
  | y :: xs => by
    have ih := inV_flat he x xs
    unfold inV at ih ⊢
    rw [List.map_cons, List.any_cons, ih, he]
    by_cases h : y = x
    · subst h; simp
    · have h' : ¬ x = y := fun z => h z.symm
      simp [h, h']
theorem cv_inF {f : α → V} [DecidableEq α] (h : FlatT s f) (he : ∀ x y, eqV (f x) (f y) = decide (x = y)) {x : α} {xs : List α} : CmpV X .In s (tLst s) x xs (decide (x ∈ xs)) := ⟨_, op_in_seq, fun M H v w Q m h1 h2 k => by
  obtain ⟨p, vs, e1, e2, e3⟩ := h2
  have e4 := flat_map h e3
  subst e4
  have h1' := h.is h1
  subst h1'
  refine ⟨p, _, e1, .inl (SqL.of (m _ _ e2)), h.flat x, flat_all h xs, ?_⟩
  rw [if_neg (by decide), inV_flat he]; exact k M H (Nx.refl m)⟩
theorem cv_ninF {f : α → V} [DecidableEq α] (h : FlatT s f) (he : ∀ x y, eqV (f x) (f y) = decide (x = y)) {x : α} {xs : List α} : CmpV X .NotIn s (tLst s) x xs (!decide (x ∈ xs)) := ⟨_, op_notIn_seq, fun M H v w Q m h1 h2 k => by
  obtain ⟨p, vs, e1, e2, e3⟩ := h2
  have e4 := flat_map h e3
  subst e4
  have h1' := h.is h1
  subst h1'
  refine ⟨p, _, e1, .inl (SqL.of (m _ _ e2)), h.flat x, flat_all h xs, ?_⟩
  rw [if_pos (by decide), inV_flat he]; exact k M H (Nx.refl m)⟩
theorem flat_B : FlatT tB V.bl := ⟨fun h => h, fun _ => rfl⟩
theorem flat_S : FlatT tS V.str := ⟨fun h => h, fun _ => rfl⟩
theorem eqV_B (x y : Bool) : eqV (.bl x) (.bl y) = decide (x = y) := by cases x <;> cases y <;> rfl
theorem eqV_S (x y : Str) : eqV (.str x) (.str y) = decide (x = y) := by
  show (x == y) = decide (x = y)
  by_cases h : x = y
  · subst h; simp
  · rw [decide_eq_false h]; simpa using h
theorem cv_inBL {x : Bool} {xs : List Bool} : CmpV X .In tB (tLst tB) x xs (decide (x ∈ xs)) := cv_inF flat_B eqV_B
theorem cv_inSL {x : Str} {xs : List Str} : CmpV X .In tS (tLst tS) x xs (decide (x ∈ xs)) := cv_inF flat_S eqV_S
theorem cv_ninSL {x : Str} {xs : List Str} : CmpV X .NotIn tS (tLst tS) x xs (!decide (x ∈ xs)) := cv_ninF flat_S eqV_S
/-- [e for i in reversed(range(n))] -/
theorem lc_RR {f : Nat → β} {j : Int} {p1 p2 p3 p4 : Pos} (hv : X.mg "reversed" = none) (hm : X.mg "range" = none) (he : E X G a tI j) (hj : 0 ≤ j ∧ j ≤ 1000000) (i : Nat)
    (hel : ∀ (s0 : Shared) (H : Hp) (C : Addr) (cl : List (Str × Addr)) (fp : List Addr) (m : Nat), (m : Int) < j → E (X.blk s0 H scope (compEnvC scope cl C X.env) fp) ((wipeG G (own.map (·.2))).set i (.vl tI (j - 1 - (m : Int)))) e t (f m))
    (ok : BlkOk X.N X.env.scope scope own)
    (hg : ∀ (s0 : Shared) (H : Hp) (C : Addr) (cl : List (Str × Addr)) (fp : List Addr), PG (X.blk s0 H scope (compEnvC scope cl C X.env) fp) (.Name n pn) (gName i)) (hio : i ∈ own.map (·.2) := by decide)
    (hgr : Gl X "range" := by rfl) (hgv : Gl X "reversed" := by rfl) (hst : starEach [a] X.env = (false, eval a X.env) :: starEach [] X.env := by rfl)
    (hst2 : starEach [.Call (.Name "range" p1) [a] [] p2] X.env = (false, eval (.Call (.Name "range" p1) [a] [] p2) X.env) :: starEach [] X.env := by rfl)
    (hs : ∀ x, foldedSetIterable (.Call (.Name "reversed" p3) [.Call (.Name "range" p1) [a] [] p2] [] p4) X.env x = pure x := by intro _; rfl) : LC X G e (.Name n pn) (.Call (.Name "reversed" p3) [.Call (.Name "range" p1) [a] [] p2] [] p4) [] scope t ((List.range j.toNat).map f) := ⟨_, _, _, wBlk X scope e, own, (pi_revR hgv hv (prg_1 hgr hm pe_w hst) hst2), ok, hg, (fun _ _ _ _ _ => pts_nil), (fun s0 H C cl fp => pe_blk s0 H C cl fp), hs, fun {M0 H0 M H σ} S Q q => by
  refine he.run S _ fun v M1 H1 n1 r1 => ?_
  refine ⟨j, by rw [show v = V.int j from r1], by decide, by decide, by omega, by omega, fun D hD => lc_it (w := walk_rangeC) (fun m H' => LcI X.K t M1 H1 D ((List.range m).map f) H') (lcI_start n1.sub hD) (fun _ _ _ _ => trivial) ?_ ?_⟩
  · rintro m x H' H2 hm hI ⟨rfl, rfl⟩
    have e0 : (0 : Int) + (((j - 0).toNat : Nat) : Int) - 1 + (m : Nat) * (-1) = j - 1 - (m : Int) := by omega
    dsimp only
    rw [e0]
    refine ⟨wiped hio, fun s0 H2 C cl fp => ?_⟩
    rw [List.range_succ, List.map_append]
    have hl : ((List.range m).map f).length < 1000000 := by
      rw [List.length_map, List.length_range]; omega
    exact lcI_turn (X := X) rfl hD hI hl (fun M' n' => St.block (S.next n1) n' _ i (s := tI) (x := j - 1 - (m : Int)) rfl) (hel s0 H2 C cl fp m (by omega))
  · rintro H' ⟨M', ws, n', mD, hh, pr⟩
    rw [Int.sub_zero] at pr
    exact q D M' H' ws (n1.trans n') (n1.ex.free hD) mD hh pr⟩
/-- xs.extend(e) -/
theorem s_ext (k : Nat) {n : Str} {p1 apos cpos : Pos} (h0 : G[k]? = some (.ow s xs)) (he : E X G e (tLst s) ys) (hz : xs.length + ys.length ≤ 1000000) (h : R.nx (G.set k (.ow s (xs ++ ys)))) (hi : X.N[k]? = some n := by rfl)
    (hv : Vis X.env.scope n := by first | exact Or.inl rfl | exact Or.inr (Or.inl rfl) | exact Or.inr (Or.inr rfl))
    (hd : (n == ("__debug__" : Str)) = false := by decide) (hcd : (n == ("__classdict__" : Str)) = false := by decide)
    (hst : starEach [e] X.env = (false, eval e X.env) :: starEach [] X.env := by rfl)
    (hbase : attributeBase (.Name n p1) "extend" X.env (eval (.Name n p1) X.env) = eval (.Name n p1) X.env := by rfl)
    (hfew : ((backTo cpos (starEach [e] X.env)).all (fun x => !x.1) && (backToKw cpos (keywordEach [] X.env)).all (fun x => x.1.isSome)
      && decide ([e].length + ([] : List Keyword).length + (if ([] : List Keyword).isEmpty then 0 else 1) < 30)) = true := by rfl)
    (hline : (apos.endLine == cpos.line) = true := by rfl) (hplain : (backTo cpos (starEach [] X.env)).any (·.1) = false := by rfl)
    (hs : swapsWith (.Call (.Attribute (.Name n p1) "extend" apos) [e] [] cpos) none pos.line X.env = pure false := by rfl) :
    S1 X G (.Expr (.Call (.Attribute (.Name n p1) "extend" apos) [e] [] cpos) pos) R := ⟨fun D E S tk f => by
  obtain ⟨a0, vs0, e0, hh0, _, _, _⟩ := S.putOwn (ys := xs) h0
  refine ⟨_, ps_expr (pe_bm PySem.F.plainAttrs_list PySem.F.slot_list_extend PySem.F.type_list_extend mt_extend (pe_var hi hv hd hcd) (pa_cons pe_w pa_nil hst) hbase hfew hline hst hplain) hs, ?_⟩
  refine ⟨.ref a0, e0, .inl ⟨rfl, vs0, SqL.of hh0⟩, he.run S _ fun v M1 H1 n1 r1 => ?_⟩
  have S1 := S.next n1
  obtain ⟨a, vs, e1, hh, mp, pr, upd'⟩ := S1.putOwn (ys := xs ++ ys) h0
  rw [e0] at e1
  cases e1
  obtain ⟨b, ws, eb, hb, pb⟩ := r1
  subst eb
  exact ⟨a0, b, vs, ws, rfl, rfl, hh, S1.sub _ _ hb, by rw [pr.length, pb.length]; exact Nat.le_trans hz (by decide), f.nx (upd' _ (paired_app pr pb)) h⟩⟩
/-- x, y = xs.pop() -/
theorem s_popU (m m1 m2 : Nat) {n n1 n2 : Str} {p1 apos cpos q1 q2 q3 : Pos} {kt : Nat} {zs : List (α × β)} (h0 : G[m]? = some (.ow (tP2 s t) (zs ++ [(x, y)]))) (h : R.nx (((G.set m (.ow (tP2 s t) zs)).set m1 (.vl s x)).set m2 (.vl t y)))
    (hN : X.N.Nodup) (hcm : X.calm = true) (hi : X.N[m]? = some n := by rfl) (hi1 : X.N[m1]? = some n1 := by rfl) (hi2 : X.N[m2]? = some n2 := by rfl)
    (hv : Vis X.env.scope n := by first | exact Or.inl rfl | exact Or.inr (Or.inl rfl) | exact Or.inr (Or.inr rfl))
    (hd : (n == ("__debug__" : Str)) = false := by decide) (hcd : (n == ("__classdict__" : Str)) = false := by decide)
    (hbase : attributeBase (.Name n p1) "pop" X.env (eval (.Name n p1) X.env) = eval (.Name n p1) X.env := by rfl) (hline : (apos.endLine == cpos.line) = true := by rfl)
    (hx1 : Loc X.env.scope n1 := by first | exact Or.inl rfl | exact Or.inr rfl) (hx2 : Loc X.env.scope n2 := by first | exact Or.inl rfl | exact Or.inr rfl) (hf1 : X.fn n1 = true ∨ X.env.scope.names.lookup n1 = some .local := by first | exact .inl rfl | exact .inr rfl) (hf2 : X.fn n2 = true ∨ X.env.scope.names.lookup n2 = some .local := by first | exact .inl rfl | exact .inr rfl)
    (hs1 : (assignEach [.Name n1 q1, .Name n2 q2] X.env).map (·.2) = assign (.Name n1 q1) X.env :: (assignEach [.Name n2 q2] X.env).map (·.2) := by rfl) (hs2 : (assignEach [.Name n2 q2] X.env).map (·.2) = assign (.Name n2 q2) X.env :: (assignEach [] X.env).map (·.2) := by rfl)
    (hn : (assignEach [.Name n1 q1, .Name n2 q2] X.env).length = 2 := by rfl) (hst : (assignEach [.Name n1 q1, .Name n2 q2] X.env).findIdx? (·.1) = none := by rfl)
    (hs : swapsWithSole [.Tuple [.Name n1 q1, .Name n2 q2] kt q3] (.Call (.Attribute (.Name n p1) "pop" apos) [] [] cpos) pos.line X.env = pure false := by rfl) (hw : swappedStores [.Tuple [.Name n1 q1, .Name n2 q2] kt q3] (.Call (.Attribute (.Name n p1) "pop" apos) [] [] cpos) X.env = pure none := by rfl)
    (h1 : (assignEach [.Tuple [.Name n1 q1, .Name n2 q2] kt q3] X.env).map (·.2) = [assign (.Tuple [.Name n1 q1, .Name n2 q2] kt q3) X.env] := by rfl) :
    S1 X G (.Assign [.Tuple [.Name n1 q1, .Name n2 q2] kt q3] (.Call (.Attribute (.Name n p1) "pop" apos) [] [] cpos) pos) R := ⟨fun D E S tk f => by
  obtain ⟨a, vs, e0, hh, mp, pr, upd'⟩ := S.putOwn (ys := zs) h0
  obtain ⟨ws, w, rfl, pw, rw_⟩ := paired_last pr
  refine ⟨_, ps_asg (pe_bm0 PySem.F.plainAttrs_list PySem.F.slot_list_pop PySem.F.type_list_pop mt_pop (pe_var hi hv hd hcd) hbase hline) (pg_tup hcm (pgs_cons (pg_name hN hi1 hx1 hf1) (pgs_cons (pg_name hN hi2 hx2 hf2) pgs_nil hs2) hs1) hn hst) hs hw h1, ?_⟩
  refine ⟨.ref a, e0, .inl ⟨rfl, _, SqL.of hh⟩, a, _, w, rfl, rfl, hh, ?_, ?_⟩
  · rw [List.length_append, List.length_singleton, Nat.add_sub_cancel, List.getElem?_append_right (Nat.le_refl _), Nat.sub_self]; rfl
  · rw [List.dropLast_concat]
    obtain ⟨p, v1, v2, g1, g2, g3, g4⟩ := rw_
    have S' := upd' ws pw
    exact ⟨p, [v1, v2], g1, sqT_ext S'.sub g2, rfl, v1, [v2], rfl, v2, [], rfl, rfl, f.nx ((S'.set (s := .vl s x) g3).set (s := .vl t y) g4) h⟩⟩
/-- sorted lists of ways, of pairs -/
theorem key_way {K : Fg} : ∀ M v (x : List Int), (tTup tI).rep K M v x → ∃ t, v = V.ref t ∧ SqT K M t (x.map V.int) := fun M v x h => by
  obtain ⟨a, vs, h1, h2, h3⟩ := h
  rw [paired_int h3] at h2
  exact ⟨a, h1, h2⟩
theorem key_pair {K : Fg} : ∀ M v (x : Int × Int), (tP2 tI tI).rep K M v x → ∃ t, v = V.ref t ∧ SqT K M t ([x.1, x.2].map V.int) := fun M v x h => by
  obtain ⟨a, v1, v2, h1, h2, h3, h4⟩ := h
  rw [show v1 = V.int x.1 from h3, show v2 = V.int x.2 from h4] at h2
  exact ⟨a, h1, h2⟩
end
end TL

namespace TL
open PySem PySem.Spec PyProof.Rows L2
section
variable {ι α : Type} {K : Fg} {ar : ι → List Sl} {pre : ι → Prop} {t : Ty α}
/-- a new list may be taken as a list that stays -/
theorem spN_G {out : ι → List α} : ∀ vs H Q E, spG K ar pre (tLst t) out vs H Q E → spN K ar pre t (fun i y => y = out i) vs H Q E := fun vs H Q E ⟨i, M, m, r, hp, q⟩ =>
  ⟨i, M, m, r, hp, fun y e p M' H' us n hp0 mp hh pr => q (.ref p) (upd M' p (.lst us)) H' ⟨n.ex, n.vx.trans (same_new mp), fun b o q => by
    by_cases z : b = p
    · subst z; rw [upd_same] at q; cases q; exact hh
    · rw [upd_ne z] at q; exact n.sub b o q, fun b n1 n2 => by
    rw [upd_ne (fun z => n2 (by rw [z]; exact hp0))]; exact n.fr b n1 n2⟩ ⟨p, us, rfl, upd_same, by rw [← e]; exact paired_imp (fun _ _ q => t.ext (same_new mp) q) pr⟩⟩
theorem Fn.imp {P : Program} {w : World} {mg : Str → Option Value} {base : Heap} {CX : CXT} {k : Nat} {n : Str} {ps : List Str} {sp sp' : Sp} (C : Fn P w K mg base CX k n ps sp) (h : ∀ vs H Q E, sp' vs H Q E → sp vs H Q E) : Fn P w K mg base CX k n ps sp' := by
  obtain ⟨f, fd, h1, h2, h3, F⟩ := C.ex
  exact ⟨f, fd, h1, h2, h3, F.imp h⟩
end
theorem none_isO {K : Fg} {M : Hp} {v : V} {x : Option Int} (r : (tO tI).rep K M v x) : decide (v = V.non) = decide (x = none) := by
  cases x with
  | none => have : v = V.non := r; rw [this]; rfl
  | some y => have : v = V.int y := r; rw [this]; rfl
end TL

namespace Ea
open PySem L2 TL
def top (i : Nat) : Stmt := PySem.Challenge.pw_endsalike_k08_live_and_landings.main.body.getD i (.Pass ⟨0, 0, 0, 0⟩)
abbrev scEndsError : Stmt := top 1
abbrev scBadBook : Stmt := top 2
abbrev sBadBook__init__ : Stmt := inClass (top 2) 0
abbrev sreach_flags : Stmt := top 4
abbrev sreached_from : Stmt := top 5
abbrev sreach_table : Stmt := top 6
abbrev sknot_around : Stmt := top 7
abbrev sis_blocked : Stmt := top 8
abbrev snext_head : Stmt := top 9
abbrev sknot_list : Stmt := top 10
abbrev sknot_numbers : Stmt := top 11
abbrev smarks_beyond : Stmt := top 12
abbrev sendless_flags : Stmt := top 13
abbrev slive_flags : Stmt := top 14
abbrev sone_step_on : Stmt := top 16
abbrev slandings : Stmt := top 17
abbrev sfrozen : Stmt := top 19
abbrev sis_whole : Stmt := top 20
abbrev sis_target : Stmt := top 22
abbrev smoved_kinds : Stmt := top 23
abbrev scBook : Stmt := top 24
abbrev sBook__init__ : Stmt := inClass (top 24) 0
abbrev sBook__eq__ : Stmt := inClass (top 24) 1
abbrev sBook__len__ : Stmt := inClass (top 24) 2
abbrev sBook__iter__ : Stmt := inClass (top 24) 3
abbrev sBook__add__ : Stmt := inClass (top 24) 4
abbrev slive_kinds : Stmt := top 26
abbrev s_law_whole : Stmt := top 28
abbrev s_law_cell : Stmt := top 29
abbrev s_law_digits : Stmt := top 30
abbrev s_law_maze_sizes : Stmt := top 31
abbrev s_law_branch : Stmt := top 32
abbrev s_law_maze : Stmt := top 33
abbrev s_law_broad : Stmt := top 34
abbrev s_law_order : Stmt := top 35
abbrev s_law_named : Stmt := top 36
abbrev s_law_renumbered : Stmt := top 37
abbrev s_law_reach : Stmt := top 38
abbrev s_law_from_below : Stmt := top 39
abbrev s_law_marks : Stmt := top 40
abbrev s_law_live : Stmt := top 41
abbrev s_law_way_items : Stmt := top 42
abbrev s_law_landings : Stmt := top 43
abbrev s_law_sum : Stmt := top 44
abbrev s_law_picked : Stmt := top 45
abbrev s_law_same_row : Stmt := top 46
abbrev s_law_same_rows : Stmt := top 47
abbrev slaw : Stmt := top 48
structure Good (ks : List (List Int)) (n e : Int) : Prop where
  pos : 0 < ks.length
  len : (ks.length : Int) ≤ n
  row : ∀ r ∈ ks, (r.length : Int) ≤ e ∧ ∀ t ∈ r, -3 ≤ t ∧ t < ks.length
theorem Good.mono {ks : List (List Int)} {n e n' e' : Int} (h : Good ks n e) (h1 : n ≤ n') (h2 : e ≤ e') : Good ks n' e' := ⟨h.pos, by have := h.len; omega, fun r hr => ⟨by have := (h.row r hr).1; omega, (h.row r hr).2⟩⟩
theorem ix_paired {F : Int → Int → Prop} {xs ys : List Int} (p : Paired F xs ys) {i : Int} (h0 : 0 ≤ i) (h1 : i < ys.length) : F (ix xs i) (ix ys i) := by
  have hy := ix_pos (xs := ys) h0 h1
  obtain ⟨x, q, f⟩ := paired_get p hy
  have hx := ix_pos (xs := xs) h0 (by rw [p.length]; exact h1)
  rw [hx] at q; cases q; exact f
theorem ix_getElem {α : Type} [Inhabited α] {xs : List α} {i : Int} {x : α} (h0 : 0 ≤ i) (h : xs[i.toNat]? = some x) : ix xs i = x := by
  have hl := (List.getElem?_eq_some_iff.mp h).1
  have := ix_pos (xs := xs) h0 (by omega)
  rw [h] at this; exact (Option.some.inj this).symm
theorem flat_one {α : Type} (n : Nat) (x : α) : (List.replicate n [x]).flatten = List.replicate n x := by
  induction n with
  | zero => rfl
  | succ n ih => rw [List.replicate_succ, List.flatten_cons, ih, List.replicate_succ]; rfl
theorem mul_le_800 {n e : Int} (h0 : 0 ≤ n) (h1 : n ≤ 40) (h2 : 0 ≤ e) (h3 : e ≤ 20) : 0 ≤ n * e ∧ n * e ≤ 800 := by
  refine ⟨Int.mul_nonneg h0 h2, ?_⟩
  have a := Int.mul_le_mul_of_nonneg_right h1 h2
  omega
theorem cut_from {α : Type} (xs : List α) {a : Int} (h : 0 ≤ a) : cut xs (some a) none = xs.drop a.toNat := by
  unfold cut
  have e1 : HT.sIx xs.length 0 (some a) = min a.toNat xs.length := if_neg (by omega)
  have e2 : HT.sIx xs.length xs.length none = xs.length := rfl
  rw [e1, e2]
  by_cases q : a.toNat ≤ xs.length
  · rw [Nat.min_eq_left q, List.take_of_length_le (by rw [List.length_drop]; omega)]
  · rw [Nat.min_eq_right (by omega), List.drop_of_length_le (Nat.le_refl _), List.drop_of_length_le (by omega)]; simp
theorem cut_upto {α : Type} (xs : List α) {a : Int} (h : 0 ≤ a) : cut xs none (some a) = xs.take a.toNat := by
  unfold cut
  have e1 : HT.sIx xs.length xs.length (some a) = min a.toNat xs.length := if_neg (by omega)
  have e2 : HT.sIx xs.length 0 none = 0 := rfl
  rw [e1, e2, List.drop_zero, Nat.sub_zero]
  by_cases q : a.toNat ≤ xs.length
  · rw [Nat.min_eq_left q]
  · rw [Nat.min_eq_right (by omega), List.take_of_length_le (Nat.le_refl _), List.take_of_length_le (by omega)]
theorem mul_lt' {k n e j : Int} (h0 : 0 ≤ k) (h1 : k < n) (h2 : 0 ≤ j) (h3 : j < e) : 0 ≤ k * e ∧ k * e + j < n * e := by
  have a : (k + 1) * e ≤ n * e := Int.mul_le_mul_of_nonneg_right (by omega) (by omega)
  rw [Int.add_mul] at a
  have b := Int.mul_nonneg h0 (show 0 ≤ e by omega)
  omega
def rowOk (many e : Int) (r : List Int) : Prop := (r.length : Int) ≤ e ∧ ∀ t ∈ r, -3 ≤ t ∧ t < many
theorem ixSome {α : Type} [Inhabited α] {xs : List α} {i : Int} (h0 : 0 ≤ i) (h1 : i < xs.length) : xs[i.toNat]? = some (ix xs i) := ix_pos h0 h1
theorem ixNp {n : Nat} {i : Int} (h0 : 0 ≤ i) (h1 : i < n) : ixN n i = some i.toNat := by
  unfold ixN
  rw [if_pos h0, if_pos h1]
def inR (many : Int) (xs : List Int) : Prop := ∀ t ∈ xs, 0 ≤ t ∧ t < many
theorem firstN_in {i : Int} : inR i (firstN i) := fun t ht => by
  obtain ⟨k, hk, rfl⟩ := List.mem_map.mp ht
  have := List.mem_range.mp hk
  omega
theorem firstN_len (i : Int) : (firstN i).length = i.toNat := by unfold firstN; simp

/-! ways in a book of kinds -/
inductive Pth (E : Nat → Nat → Prop) (m : Nat) : Nat → Nat → Prop
  | one {a b : Nat} : E a b → Pth E m a b
  | step {a c b : Nat} : E a c → c < m → Pth E m c b → Pth E m a b
theorem Pth.zero {E : Nat → Nat → Prop} {a b : Nat} : Pth E 0 a b ↔ E a b := ⟨fun h => by
  cases h with
  | one h => exact h
  | step _ h _ => exact absurd h (Nat.not_lt_zero _), .one⟩
theorem Pth.mono {E : Nat → Nat → Prop} {m n : Nat} (h : m ≤ n) {a b : Nat} (p : Pth E m a b) : Pth E n a b := by
  induction p with
  | one e => exact .one e
  | step e l _ ih => exact .step e (Nat.lt_of_lt_of_le l h) ih
theorem Pth.trans {E : Nat → Nat → Prop} {m : Nat} {a c b : Nat} (p : Pth E m a c) (hc : c < m) (q : Pth E m c b) : Pth E m a b := by
  induction p with
  | one e => exact .step e hc q
  | step e l _ ih => exact .step e l (ih hc q)
theorem Pth.succ {E : Nat → Nat → Prop} {m a b : Nat} : Pth E (m + 1) a b ↔ Pth E m a b ∨ (Pth E m a m ∧ Pth E m m b) := by
  constructor
  · intro p
    induction p with
    | one e => exact .inl (.one e)
    | @step a c b e l _ ih =>
      by_cases h : c < m
      · rcases ih with q | ⟨q, r⟩
        · exact .inl (.step e h q)
        · exact .inr ⟨.step e h q, r⟩
      · have : c = m := by omega
        subst this
        rcases ih with q | ⟨q, r⟩
        · exact .inr ⟨.one e, q⟩
        · exact .inr ⟨.one e, r⟩
  · rintro (p | ⟨p, q⟩)
    · exact p.mono (Nat.le_succ _)
    · exact (p.mono (Nat.le_succ _)).trans (Nat.lt_succ_self _) (q.mono (Nat.le_succ _))
theorem Pth.self {E : Nat → Nat → Prop} {m b : Nat} : Pth E (m + 1) m b ↔ Pth E m m b := by
  rw [Pth.succ]
  exact ⟨fun h => h.elim id And.right, .inl⟩
def edge (kinds : List (List Int)) (a b : Nat) : Prop := (b : Int) ∈ ix kinds (a : Int)
open Classical in
noncomputable def rowP (kinds : List (List Int)) (m a : Nat) : List Bool := (List.range kinds.length).map fun b => decide (Pth (edge kinds) m a b)
noncomputable def tabP (kinds : List (List Int)) (m : Nat) : List (List Bool) := (List.range kinds.length).map (rowP kinds m)
/-- kind b is reached from kind a -/
def Rch (kinds : List (List Int)) (a b : Nat) : Prop := Pth (edge kinds) kinds.length a b
noncomputable def reachTab (kinds : List (List Int)) : List (List Bool) := tabP kinds kinds.length
theorem ix_range {α : Type} [Inhabited α] {n : Nat} {f : Nat → α} {i : Nat} (h : i < n) : ix ((List.range n).map f) (i : Int) = f i := by
  apply ix_getElem (by omega)
  rw [Int.toNat_natCast, List.getElem?_map, List.getElem?_range h]; rfl
theorem set_range {α : Type} {n : Nat} {f g : Nat → α} {k : Nat} (hk : k < n) (h : ∀ i, i < n → i ≠ k → g i = f i) : ((List.range n).map f).set k (g k) = (List.range n).map g := by
  apply List.ext_getElem?
  intro i
  by_cases hi : i < n
  · by_cases z : k = i
    · subst z
      rw [List.getElem?_set_self (by simpa using hk), List.getElem?_map, List.getElem?_range hk]; rfl
    · rw [List.getElem?_set_ne z, List.getElem?_map, List.getElem?_map, List.getElem?_range hi]
      show some (f i) = some (g i)
      rw [h i hi (Ne.symm z)]
  · rw [List.getElem?_eq_none (by simp; omega), List.getElem?_eq_none (by simp; omega)]
open Classical in
theorem rowP_len (kinds : List (List Int)) (m a : Nat) : (rowP kinds m a).length = kinds.length := by unfold rowP; simp

def cntF : List Bool → Nat
  | [] => 0
  | b :: bs => (if b = true then 0 else 1) + cntF bs
theorem cntF_set : ∀ {bs : List Bool} {i : Nat}, bs[i]? = some false → cntF (bs.set i true) + 1 = cntF bs
  | [], i, h => by simp at h
  | b :: bs, 0, h => by
    simp at h
    subst h
    show (if true = true then 0 else 1) + cntF bs + 1 = (if false = true then 0 else 1) + cntF bs
    simp; omega
  | b :: bs, i + 1, h => by
    have := cntF_set (bs := bs) (i := i) (by simpa using h)
    show (if b = true then 0 else 1) + cntF (bs.set i true) + 1 = (if b = true then 0 else 1) + cntF bs
    omega
theorem cntF_rep : ∀ n : Nat, cntF (List.replicate n false) = n
  | 0 => rfl
  | n + 1 => by
    rw [List.replicate_succ]
    show (if false = true then 0 else 1) + cntF (List.replicate n false) = n + 1
    rw [cntF_rep n]; simp; omega
theorem ix_rep {n j : Nat} (h : j < n) : ix (List.replicate n false) (j : Int) = false := by
  apply ix_getElem (by omega)
  rw [Int.toNat_natCast, List.getElem?_replicate, if_pos h]
theorem bools_ext {xs ys : List Bool} (h : xs.length = ys.length) (e : ∀ i : Nat, i < xs.length → ix xs (i : Int) = ix ys (i : Int)) : xs = ys := by
  apply List.ext_getElem?
  intro i
  by_cases hi : i < xs.length
  · have a := ixSome (xs := xs) (i := (i : Int)) (by omega) (by omega)
    have b := ixSome (xs := ys) (i := (i : Int)) (by omega) (by omega)
    rw [Int.toNat_natCast] at a b
    rw [a, b, e i hi]
  · rw [List.getElem?_eq_none (by omega), List.getElem?_eq_none (by omega)]
theorem ix_setB {xs : List Bool} {i j : Nat} {c : Bool} (hi : i < xs.length) (hj : j < xs.length) : ix (xs.set i c) (j : Int) = if i = j then c else ix xs (j : Int) := by
  apply ix_getElem (by omega)
  rw [Int.toNat_natCast, List.getElem?_set]
  split
  · first | rfl | (rw [if_pos hi])
  · have a := ixSome (xs := xs) (i := (j : Int)) (by omega) (by omega)
    rw [Int.toNat_natCast] at a
    exact a
/-- flags and those still waiting, `here` being looked at, its first targets ts done -/
structure Flg (kinds : List (List Int)) (k : Nat) (fl : List Bool) (wt : List Int) (done : Nat → Prop) (ts : List Int) : Prop where
  len : fl.length = kinds.length
  rch : ∀ j : Nat, j < kinds.length → ix fl (j : Int) = true → Rch kinds k j
  wts : ∀ x ∈ wt, ∃ j : Nat, x = (j : Int) ∧ j < kinds.length ∧ (j = k ∨ ix fl (j : Int) = true)
  cls : ∀ a b : Nat, a < kinds.length → b < kinds.length → (a = k ∨ ix fl (a : Int) = true) → (a : Int) ∉ wt → done a → edge kinds a b → ix fl (b : Int) = true
  tgt : ∀ t ∈ ts, 0 ≤ t → ix fl t = true
theorem edge_lt {kinds : List (List Int)} {n e : Int} (hg : Good kinds n e) {a b : Nat} (ha : a < kinds.length) (h : edge kinds a b) : b < kinds.length := by
  have := (hg.row _ (ix_mem (xs := kinds) (i := (a : Int)) (by omega) (by omega))).2 _ h
  omega
theorem Flg.fin {kinds : List (List Int)} {n e : Int} {k : Nat} {fl : List Bool} (hg : Good kinds n e) (hk : k < kinds.length) (h : Flg kinds k fl [] (fun _ => True) []) : fl = rowP kinds kinds.length k := by
  classical
  have key : ∀ {a b : Nat}, Pth (edge kinds) kinds.length a b → a < kinds.length → (a = k ∨ ix fl (a : Int) = true) → ix fl (b : Int) = true := by
    intro a b p
    induction p with
    | one e1 => intro ha hf; exact h.cls _ _ ha (edge_lt hg ha e1) hf (by simp) trivial e1
    | step e1 l _ ih => intro ha hf; exact ih l (.inr (h.cls _ _ ha l hf (by simp) trivial e1))
  refine bools_ext (by rw [h.len, rowP_len]) fun i hi => ?_
  rw [h.len] at hi
  have e2 : ix (rowP kinds kinds.length k) (i : Int) = decide (Pth (edge kinds) kinds.length k i) := by unfold rowP; rw [ix_range hi]
  rw [e2]
  by_cases q : ix fl (i : Int) = true
  · rw [q]; exact (decide_eq_true (h.rch i hi q)).symm
  · have : ¬ Pth (edge kinds) kinds.length k i := fun p => q (key p hk (.inl rfl))
    rw [decide_eq_false this]; simpa using q
noncomputable def spreach_flags (K : Fg) : Sp := spG K (fun i : List (List Int) × Int => [.vl (tTup (tTup tI)) i.1, .vl tI i.2]) (fun i => Good i.1 1000 1000 ∧ 0 ≤ i.2 ∧ i.2 < i.1.length) (tLst tB) (fun i => rowP i.1 i.1.length i.2.toNat)
section
variable {P : Program} {w : World} {K : Fg} {mg : Str → Option Value} {base : Heap}
theorem sc_reach_flags : FnScope ["kinds", "kind", "flags", "waiting", "here", "target"] ["kinds", "kind"] (defScope sreach_flags) := ⟨rfl, rfl, rfl, by decide +kernel, rfl, by decide +kernel, by decide +kernel⟩
theorem okreach_flags {f : Addr} {fd : FuncData} (F : Fun K "reach_flags" "reach_flags" sreach_flags f fd) (b : Bi mg) : FnOk P w K mg base CX0 1 f fd ["kinds", "kind"] (spreach_flags K) := by
  refine fn_ok F sc_reach_flags 4 rfl (fun _ => rfl) (fun cdv A outer s H E hr ⟨kinds, kind⟩ hp => ?_)
  dsimp only at hp ⊢
  obtain ⟨hg, k0, k1⟩ := hp
  have hlen := hg.len
  obtain ⟨k, rfl⟩ : ∃ k : Nat, kind = (k : Int) := ⟨kind.toNat, by omega⟩
  have hk : k < kinds.length := by omega
  rw [Int.toNat_natCast]
  refine b_cons (s_own 2 (el_rep (EL.toE (el_lst (eh_cons e_bl eh_nil))) (e_lenT b.len (e_var 0)) (by omega) (by simp only [List.length_cons, List.length_nil]; omega)) ?_ sc_reach_flags.nd)
  have fr : ∀ n : Nat, (List.replicate n [false]).flatten = List.replicate n false := fun n => by
    induction n with
    | zero => rfl
    | succ n ih => rw [List.replicate_succ, List.flatten_cons, ih]; rfl
  rw [fr, Int.toNat_natCast]
  refine b_cons (s_own 3 (el_lst (eh_cons (e_var 1) eh_nil)) ?_ sc_reach_flags.nd)
  refine b_cons (s_while (fun m G' => ∃ fl wt, (Flg kinds k fl wt (fun _ => True) [] ∧ m = 2 * cntF fl + wt.length ∧ m ≤ 2 * kinds.length + 1) ∧ G' = [.vl (tTup (tTup tI)) kinds, .vl tI (k : Int), .ow tB fl, .ow tI wt, .un, .un]) _ _ (Sub.refl _) ⟨List.replicate kinds.length false, [(k : Int)], ⟨⟨List.length_replicate, fun j hj h => ?_, fun x hx => ⟨k, List.mem_singleton.mp hx, hk, .inl rfl⟩, fun a c ha hc h hn _ e1 => ?_, fun t ht => by cases ht⟩, rfl, by rw [cntF_rep]; simp⟩, rfl⟩ ?_)
  · rw [ix_rep hj] at h; cases h
  · rcases h with z | z
    · exact absurd (by rw [z]; simp) hn
    · rw [ix_rep ha] at z; cases z
  · rintro m _ ⟨fl, wt, ⟨hF, hm, hmb⟩, rfl⟩
    refine ⟨_, t_read 3 rfl (t_lst (e_var 3)), fun h => ?_, fun h => ?_⟩
    · rcases List.eq_nil_or_concat wt with z | ⟨ws, x, z⟩
      · subst z; cases h
      rw [List.concat_eq_append] at z
      subst z
      obtain ⟨here, rfl, hh, hhf⟩ := hF.wts x (by simp)
      have hrow := hg.row _ (ix_mem (xs := kinds) (i := (here : Int)) (by omega) (by omega))
      rw [List.length_append, List.length_singleton] at hm
      refine b_cons (s_pop 4 3 (by decide) rfl ?_ sc_reach_flags.nd)
      refine b_cons (s_forT 5 (fun j G' => ∃ fl' wt', (Flg kinds k fl' wt' (fun a => a ≠ here) ((ix kinds (here : Int)).take j) ∧ 2 * cntF fl' + wt'.length ≤ 2 * cntF fl + ws.length ∧ (here = k ∨ ix fl' (here : Int) = true)) ∧ G' = [.vl (tTup (tTup tI)) kinds, .vl tI (k : Int), .ow tB fl', .ow tI wt', .vl tI (here : Int), .un]) _ (e_ixT (e_var 0) (e_var 4) (atI_ix (by omega) (by omega))) (Sub.refl _) ⟨fl, ws, ⟨⟨hF.len, hF.rch, fun x hx => hF.wts x (List.mem_append_left _ hx), fun a c ha hc h1 h2 h3 e1 => hF.cls a c ha hc h1 (fun z => ?_) trivial e1, fun t ht => by simp at ht⟩, Nat.le_refl _, hhf⟩, rfl⟩ ?_ ?_ sc_reach_flags.nd rfl)
      · rcases List.mem_append.mp z with y | y
        · exact h2 y
        · exact h3 (by have := List.mem_singleton.mp y; omega)
      · rintro j t _ ht ⟨fl', wt', ⟨hF', hms, hhf'⟩, rfl⟩
        rw [take_snoc ht]
        have htm := List.mem_of_getElem? ht
        have htr := hrow.2 t htm
        have hl' := hF'.len
        refine b_cut (fun G' => ∃ fl' wt' a, (Flg kinds k fl' wt' (fun a => a ≠ here) ((ix kinds (here : Int)).take j ++ [t]) ∧ 2 * cntF fl' + wt'.length ≤ 2 * cntF fl + ws.length ∧ (here = k ∨ ix fl' (here : Int) = true)) ∧ G' = [.vl (tTup (tTup tI)) kinds, .vl tI (k : Int), .ow tB fl', .ow tI wt', .vl tI (here : Int), a]) (s_if (t_read 2 rfl (TW.toT (w_and (t_cv (e_var 5) e_int cv_ge) (fun h => w_and1 (t_not (t_val (e_ixL (e_var 2) (e_var 5) (atI_ix (by have := of_decide_eq_true h; omega) (by omega))))))))) (fun h => ?_) (fun h => ?_)) ?_
        · obtain ⟨q1, q2⟩ := (Bool.and_eq_true _ _).mp h
          have q1 := of_decide_eq_true q1
          have q2 : ix fl' t = false := by simpa using q2
          obtain ⟨u, rfl⟩ : ∃ u : Nat, t = (u : Int) := ⟨t.toNat, by omega⟩
          have hu : u < kinds.length := by omega
          have hus : fl'[u]? = some false := by
            have := ixSome (xs := fl') (i := (u : Int)) (by omega) (by omega)
            rw [Int.toNat_natCast, q2] at this; exact this
          have hc := cntF_set hus
          have hed : edge kinds here u := htm
          refine b_cons (s_seti 2 (m := u) rfl e_bl (e_var 5) (by rw [ixNp (by omega) (by omega), Int.toNat_natCast]) ?_)
          refine b_cons (s_app 3 rfl (e_var 5) (by omega) ?_)
          have hs : ∀ i : Nat, i < kinds.length → ix (fl'.set u true) (i : Int) = if u = i then true else ix fl' (i : Int) := fun i hi => ix_setB (by omega) (by omega)
          have keep : ∀ i : Nat, i < kinds.length → ix fl' (i : Int) = true → ix (fl'.set u true) (i : Int) = true := fun i hi q => by
            rw [hs i hi]; split
            · rfl
            · exact q
          have new : ix (fl'.set u true) (u : Int) = true := by rw [hs u hu, if_pos rfl]
          refine b_nil ⟨_, _, _, ⟨⟨by rw [List.length_set]; exact hl', fun i hi q => ?_, fun x hx => ?_, fun a c ha hc' h1 h2 h3 e1 => ?_, fun t' ht' h0 => ?_⟩, by rw [List.length_append, List.length_singleton]; omega, hhf'.imp id (keep here hh)⟩, rfl⟩
          · rw [hs i hi] at q
            by_cases z : u = i
            · subst z
              rcases hhf' with y | y
              · subst y; exact .one hed
              · exact (hF'.rch here hh y).trans hh (.one hed)
            · rw [if_neg z] at q; exact hF'.rch i hi q
          · rcases List.mem_append.mp hx with y | y
            · obtain ⟨i, e1, e2, e3⟩ := hF'.wts x y
              exact ⟨i, e1, e2, e3.imp id (keep i e2)⟩
            · exact ⟨u, List.mem_singleton.mp y, hu, .inr new⟩
          · have hau : ¬ u = a := fun z => h2 (List.mem_append_right _ (by rw [z]; simp))
            refine keep c hc' (hF'.cls a c ha hc' (h1.imp id fun y => ?_) (fun z => h2 (List.mem_append_left _ z)) h3 e1)
            rw [hs a ha, if_neg hau] at y; exact y
          · rcases List.mem_append.mp ht' with y | y
            · have hy := (hrow.2 t' (List.mem_of_mem_take y)).2
              have := keep t'.toNat (by omega) (by rw [show ((t'.toNat : Nat) : Int) = t' by omega]; exact hF'.tgt t' y h0)
              rw [show ((t'.toNat : Nat) : Int) = t' by omega] at this; exact this
            · rw [List.mem_singleton.mp y]; exact new
        · refine b_nil ⟨fl', wt', _, ⟨⟨hl', hF'.rch, hF'.wts, hF'.cls, fun t' ht' h0 => ?_⟩, hms, hhf'⟩, rfl⟩
          rcases List.mem_append.mp ht' with y | y
          · exact hF'.tgt t' y h0
          · have e1 := List.mem_singleton.mp y
            subst e1
            cases q : ix fl' t' with
            | true => rfl
            | false => rw [q, decide_eq_true h0] at h; cases h
        rintro _ ⟨fl', wt', a, q, rfl⟩
        exact B.weak (b_nil ⟨fl', wt', q, rfl⟩) (.same (.same (.same (.same (.same (.un .nil))))))
      · rintro _ ⟨fl', wt', ⟨hF', hms, hhf'⟩, rfl⟩
        rw [List.take_length] at hF'
        refine B.weak (b_nil ⟨2 * cntF fl' + wt'.length, by omega, fl', wt', ⟨⟨hF'.len, hF'.rch, hF'.wts, fun a c ha hc h1 h2 _ e1 => ?_, fun t ht => by cases ht⟩, rfl, by omega⟩, rfl⟩) (.same (.same (.same (.same (.un (.un .nil))))))
        by_cases z : a = here
        · subst z; exact hF'.tgt (c : Int) e1 (by omega)
        · exact hF'.cls a c ha hc h1 h2 z e1
    · have hw : wt = [] := by cases wt with | nil => rfl | cons x xs => cases h
      subst hw
      refine b_freeze 2 rfl ?_
      exact b_cons (s_ret (e_var 2) (fun M v r => ret_is r (hF.fin hg hk).symm))
end

structure Sqr (tb : List (List Bool)) : Prop where
  len : tb.length ≤ 1000
  row : ∀ r ∈ tb, r.length = tb.length
theorem reachTab_sqr {kinds : List (List Int)} {n e : Int} (h : Good kinds n e) (hn : n ≤ 1000) : Sqr (reachTab kinds) ∧ (reachTab kinds).length = kinds.length := by
  have hl : (reachTab kinds).length = kinds.length := by unfold reachTab tabP; simp
  refine ⟨⟨by have := h.len; omega, fun r hr => ?_⟩, hl⟩
  unfold reachTab tabP at hr
  obtain ⟨a, _, rfl⟩ := List.mem_map.mp hr
  rw [rowP_len, hl]
def aroundM (tb : List (List Bool)) (k : Int) : List Int := ((List.range tb.length).filter fun o : Nat => ix (ix tb k) (o : Int) && ix (ix tb (o : Int)) k).map fun o : Nat => (o : Int)
def spknot_around (K : Fg) : Sp := spG K (fun i : List (List Bool) × Int => [.vl (tLst (tLst tB)) i.1, .vl tI i.2]) (fun i => Sqr i.1 ∧ 0 ≤ i.2 ∧ i.2 < i.1.length) (tTup tI) (fun i => aroundM i.1 i.2)
section
variable {P : Program} {w : World} {K : Fg} {mg : Str → Option Value} {base : Heap}
theorem sc_knot_around : FnScope ["table", "kind", "other"] ["table", "kind"] (defScope sknot_around) := ⟨rfl, rfl, rfl, by decide +kernel, rfl, by decide +kernel, by decide +kernel⟩
theorem okknot_around {f : Addr} {fd : FuncData} (F : Fun K "knot_around" "knot_around" sknot_around f fd) (b : Bi mg)  : FnOk P w K mg base CX0 1 f fd ["table", "kind"] (spknot_around K) := by
  refine fn_ok F sc_knot_around 1 rfl (fun _ => rfl) (fun cdv A outer s H E hr ⟨table, kind⟩ hp => ?_)
  dsimp only at hp ⊢
  obtain ⟨⟨hl, hrw⟩, k0, k1⟩ := hp
  have hk := hrw _ (ix_mem (xs := table) (i := kind) (by omega) (by omega))
  have ho := fun (o : Nat) (h : (o : Int) < table.length) => hrw _ (ix_mem (xs := table) (i := (o : Int)) (by omega) h)
  refine b_cons (s_ret (e_tupL b.tuple (EL.toE (el_lc (lc_RF (f := fun o : Nat => (o : Int)) (g := fun o : Nat => ix (ix table kind) (o : Int) && ix (ix table (o : Int)) kind) (own := [("other", 2)]) b.range (e_lenL b.len (e_var 0)) (by omega) 2 (fun s0 H C cl fp m hx => (TW.toT (w_and (t_val (e_ixL (e_ixL (e_var 0) (e_var 1) (atI_ix (by omega) (by omega))) (e_var 2) (atI_ix (by omega) (by omega)))) (fun h => (w_and1 (t_val (e_ixL (e_ixL (e_var 0) (e_var 2) (atI_ix (by omega) (by omega))) (e_var 1) (atI_ix (by have := ho m hx; omega) (by have := ho m hx; omega))))))))) (fun s0 H C cl fp m hx hd => (e_var 2)) (blkOk_by (N := ["table", "kind", "other"]) (sc := defScope sknot_around) (by decide +kernel)) (fun _ _ _ _ _ => pg_name sc_knot_around.nd rfl (by first | exact Or.inl rfl | exact Or.inr rfl))) rfl sc_knot_around.nd))) (fun M v r => ?_))
  exact r
end

def blockedM (tb : List (List Bool)) (ws : List Int) (h : Int) : Bool := ws.any fun o => !decide (o = h) && ix (ix tb h) o
def inB (tb : List (List Bool)) (ws : List Int) : Prop := ∀ x ∈ ws, 0 ≤ x ∧ x < tb.length
def spis_blocked (K : Fg) : Sp := spG K (fun i : List (List Bool) × List Int × Int => [.vl (tLst (tLst tB)) i.1, .vl (tLst tI) i.2.1, .vl tI i.2.2]) (fun i => Sqr i.1 ∧ inB i.1 i.2.1 ∧ 0 ≤ i.2.2 ∧ i.2.2 < i.1.length) tB (fun i => blockedM i.1 i.2.1 i.2.2)
section
variable {P : Program} {w : World} {K : Fg} {mg : Str → Option Value} {base : Heap}
theorem sc_is_blocked : FnScope ["table", "waiting", "head", "other"] ["table", "waiting", "head"] (defScope sis_blocked) := ⟨rfl, rfl, rfl, by decide +kernel, rfl, by decide +kernel, by decide +kernel⟩
theorem okis_blocked {f : Addr} {fd : FuncData} (F : Fun K "is_blocked" "is_blocked" sis_blocked f fd) (b : Bi mg)  : FnOk P w K mg base CX0 1 f fd ["table", "waiting", "head"] (spis_blocked K) := by
  refine fn_ok F sc_is_blocked 1 rfl (fun _ => rfl) (fun cdv A outer s H E hr ⟨table, waiting, head⟩ hp => ?_)
  dsimp only at hp ⊢
  obtain ⟨⟨hl, hrw⟩, hw, k0, k1⟩ := hp
  have hk := hrw _ (ix_mem (xs := table) (i := head) (by omega) (by omega))
  refine b_cons (s_forL 3 (fun m G' => (∀ o ∈ waiting.take m, (!decide (o = head) && ix (ix table head) o) = false) ∧ G' = [.vl (tLst (tLst tB)) table, .vl (tLst tI) waiting, .vl tI head, .un]) _ (e_var 1) (Sub.refl _) ⟨fun o h => by simp at h, rfl⟩ ?_ ?_ sc_is_blocked.nd rfl)
  · rintro m o _ ho ⟨hI, rfl⟩
    have hom := List.mem_of_getElem? ho
    have hob := hw o hom
    refine b_cons (s_if (TW.toT (w_and (t_cv (e_var 3) (e_var 2) cv_neI) (fun h => w_and1 (t_val (e_ixL (e_ixL (e_var 0) (e_var 2) (atI_ix (by omega) (by omega))) (e_var 3) (atI_ix (by omega) (by omega))))))) (fun h => ?_) (fun h => ?_))
    · refine b_cons (s_ret e_bl (fun M v r => ret_is r ?_))
      exact List.any_eq_true.mpr ⟨o, hom, h⟩
    · refine b_nil (B.weak (b_nil ⟨fun o' ho' => ?_, rfl⟩) (.same (.same (.same (.un .nil)))))
      rw [take_snoc ho] at ho'
      rcases List.mem_append.mp ho' with z | z
      · exact hI o' z
      · rw [List.mem_singleton.mp z]; exact h
  · rintro _ ⟨hI, rfl⟩
    rw [List.take_length] at hI
    refine b_cons (s_ret e_bl (fun M v r => ret_is r ?_))
    cases q : blockedM table waiting head with
    | false => rfl
    | true =>
      obtain ⟨o, h1, h2⟩ := List.any_eq_true.mp q
      rw [hI o h1] at h2; cases h2
end

def nextHM (tb : List (List Bool)) (ws : List Int) : Int := (ws.find? fun h => !blockedM tb ws h).getD (ix ws 0)
def spnext_head (K : Fg) : Sp := spG K (fun i : List (List Bool) × List Int => [.vl (tLst (tLst tB)) i.1, .vl (tLst tI) i.2]) (fun i => Sqr i.1 ∧ inB i.1 i.2 ∧ 0 < i.2.length) tI (fun i => nextHM i.1 i.2)
theorem find_at {α : Type} {p : α → Bool} {ws : List α} {m : Nat} {o : α} (h0 : ∀ x ∈ ws.take m, p x = false) (ho : ws[m]? = some o) (h : p o = true) : ws.find? p = some o := by
  have e : ws = ws.take m ++ o :: ws.drop (m + 1) := by
    obtain ⟨h1, h2⟩ := List.getElem?_eq_some_iff.mp ho
    rw [← h2, ← List.drop_eq_getElem_cons h1, List.take_append_drop]
  have n1 : (ws.take m).find? p = none := by
    rw [List.find?_eq_none]
    intro x hx
    rw [h0 x hx]; simp
  rw [e, List.find?_append, n1, List.find?_cons_of_pos h]; rfl
theorem nextHM_mem {tb : List (List Bool)} {ws : List Int} (h : 0 < ws.length) : nextHM tb ws ∈ ws := by
  unfold nextHM
  cases q : ws.find? fun h => !blockedM tb ws h with
  | none => exact ix_mem (by omega) (by omega)
  | some x => exact List.mem_of_find?_eq_some q
section
variable {P : Program} {w : World} {K : Fg} {mg : Str → Option Value} {base : Heap}
theorem sc_next_head : FnScope ["table", "waiting", "head"] ["table", "waiting"] (defScope snext_head) := ⟨rfl, rfl, rfl, by decide +kernel, rfl, by decide +kernel, by decide +kernel⟩
theorem oknext_head {f : Addr} {fd : FuncData} (F : Fun K "next_head" "next_head" snext_head f fd) (b : Bi mg) (Cis_blocked : Fn P w K mg base CX0 1 "is_blocked" ["table", "waiting", "head"] (spis_blocked K)) : FnOk P w K mg base CX0 2 f fd ["table", "waiting"] (spnext_head K) := by
  refine fn_ok F sc_next_head 1 rfl (fun _ => rfl) (fun cdv A outer s H E hr ⟨table, waiting⟩ hp => ?_)
  dsimp only at hp ⊢
  obtain ⟨hs, hw, hwl⟩ := hp
  refine b_cons (s_forL 2 (fun m G' => (∀ o ∈ waiting.take m, blockedM table waiting o = true) ∧ G' = [.vl (tLst (tLst tB)) table, .vl (tLst tI) waiting, .un]) _ (e_var 1) (Sub.refl _) ⟨fun o h => by simp at h, rfl⟩ ?_ ?_ sc_next_head.nd rfl)
  · rintro m o _ ho ⟨hI, rfl⟩
    have hom := List.mem_of_getElem? ho
    refine b_cons (s_if (t_not (t_val (e_call Cis_blocked (hr.mono (by decide)) (table, waiting, o) (ea_cons (e_var 0) (ea_cons (e_var 1) (ea_cons (e_var 2) ea_nil))) (show Sqr table ∧ inB table waiting ∧ 0 ≤ o ∧ o < table.length from ⟨hs, hw, hw o hom⟩)))) (fun h => ?_) (fun h => ?_))
    · refine b_cons (s_ret (e_var 2) (fun M v r => ret_is r ?_))
      have hf := find_at (p := fun h => !blockedM table waiting h) (fun x hx => by show (!blockedM table waiting x) = false; rw [hI x hx]; rfl) ho h
      unfold nextHM
      rw [hf]; rfl
    · refine b_nil (B.weak (b_nil ⟨fun o' ho' => ?_, rfl⟩) (.same (.same (.un .nil))))
      rw [take_snoc ho] at ho'
      rcases List.mem_append.mp ho' with z | z
      · exact hI o' z
      · rw [List.mem_singleton.mp z]; simpa using h
  · rintro _ ⟨hI, rfl⟩
    rw [List.take_length] at hI
    refine b_cons (s_ret (e_ixL (e_var 1) e_int (atI_ix (by omega) (by omega))) (fun M v r => ret_is r ?_))
    have hf : waiting.find? (fun h => !blockedM table waiting h) = none := by
      rw [List.find?_eq_none]
      intro x hx
      rw [hI x hx]; simp
    unfold nextHM
    rw [hf]; rfl
end

def headsM (tb : List (List Bool)) : List Int := ((List.range tb.length).filter fun k : Nat => ix (ix tb (k : Int)) (k : Int) && decide (ix (aroundM tb (k : Int)) 0 = (k : Int))).map fun k : Nat => (k : Int)
def klM (tb : List (List Bool)) : Nat → List Int → List (List Int)
  | 0, _ => []
  | n + 1, ws => if ws.isEmpty then [] else aroundM tb (nextHM tb ws) :: klM tb n (ws.filter fun h => !decide (h = nextHM tb ws))
noncomputable def knotsM (kinds : List (List Int)) : List (List Int) := klM (reachTab kinds) (headsM (reachTab kinds)).length (headsM (reachTab kinds))
theorem heads_in {tb : List (List Bool)} : inB tb (headsM tb) := fun x hx => by
  obtain ⟨k, hk, rfl⟩ := List.mem_map.mp hx
  have := List.mem_range.mp (List.mem_filter.mp hk).1
  omega
theorem klM_fuel (tb : List (List Bool)) : ∀ (n m : Nat) (ws : List Int), ws.length ≤ n → ws.length ≤ m → klM tb n ws = klM tb m ws
  | 0, m, ws, h, _ => by
    have : ws = [] := List.eq_nil_of_length_eq_zero (by omega)
    subst this
    cases m <;> rfl
  | n + 1, 0, ws, _, h => by
    have : ws = [] := List.eq_nil_of_length_eq_zero (by omega)
    subst this; rfl
  | n + 1, m + 1, ws, h1, h2 => by
    unfold klM
    by_cases z : ws.isEmpty = true
    · rw [if_pos z, if_pos z]
    · rw [if_neg z, if_neg z]
      have hl : (ws.filter fun h => !decide (h = nextHM tb ws)).length < ws.length := by
        have hp : 0 < ws.length := by cases ws with | nil => exact absurd rfl z | cons x xs => simp
        refine List.length_filter_lt_length_iff_exists.mpr ⟨nextHM tb ws, nextHM_mem hp, by simp⟩
      rw [klM_fuel tb n m _ (by omega) (by omega)]
theorem around_self {tb : List (List Bool)} {k : Nat} (hk : k < tb.length) (h : ix (ix tb (k : Int)) (k : Int) = true) : (k : Int) ∈ aroundM tb (k : Int) :=
  List.mem_map.mpr ⟨k, List.mem_filter.mpr ⟨List.mem_range.mpr hk, by rw [h]; rfl⟩, rfl⟩
noncomputable def spknot_list (K : Fg) : Sp := spG K (fun i : List (List Int) => [.vl (tTup (tTup tI)) i]) (fun i => Good i 1000 1000) (tTup (tTup tI)) (fun i => knotsM i)
section
variable {P : Program} {w : World} {K : Fg} {mg : Str → Option Value} {base : Heap}
theorem sc_knot_list : FnScope ["kinds", "table", "kind", "waiting", "listed", "chosen", "head"] ["kinds"] (defScope sknot_list) := ⟨rfl, rfl, rfl, by decide +kernel, rfl, by decide +kernel, by decide +kernel⟩
theorem okknot_list {f : Addr} {fd : FuncData} (F : Fun K "knot_list" "knot_list" sknot_list f fd) (b : Bi mg) (Creach_flags : Fn P w K mg base CX0 1 "reach_flags" ["kinds", "kind"] (spreach_flags K)) (Cknot_around : Fn P w K mg base CX0 1 "knot_around" ["table", "kind"] (spknot_around K)) (Cnext_head : Fn P w K mg base CX0 2 "next_head" ["table", "waiting"] (spnext_head K)) : FnOk P w K mg base CX0 3 f fd ["kinds"] (spknot_list K) := by
  refine fn_ok F sc_knot_list 6 rfl (fun _ => rfl) (fun cdv A outer s H E hr kinds hg => ?_)
  have hlen := hg.len
  obtain ⟨hsq, htl⟩ := reachTab_sqr hg (by omega)
  refine b_cons (s_set 1 (EL.toE (el_lc (lc_R (f := fun k : Nat => rowP kinds kinds.length k) (own := [("kind", 2)]) b.range (e_lenT b.len (e_var 0)) (by omega) 2 (fun s0 H C cl fp m hx => TL.E.is (e_call Creach_flags (hr.mono (by decide)) (kinds, (m : Int)) (ea_cons (e_var 0) (ea_cons (e_var 2) ea_nil)) (show Good kinds 1000 1000 ∧ 0 ≤ (m : Int) ∧ (m : Int) < kinds.length from ⟨hg, by omega, by omega⟩)) (by show rowP kinds kinds.length (m : Int).toNat = _; rw [Int.toNat_natCast])) (blkOk_by (N := ["kinds", "table", "kind", "waiting", "listed", "chosen", "head"]) (sc := defScope sknot_list) (by decide +kernel)) (fun _ _ _ _ _ => pg_name sc_knot_list.nd rfl (by first | exact Or.inl rfl | exact Or.inr rfl))) rfl sc_knot_list.nd)) ?_ sc_knot_list.nd)
  have et : (List.range (kinds.length : Int).toNat).map (fun k : Nat => rowP kinds kinds.length k) = reachTab kinds := by rw [Int.toNat_natCast]; rfl
  rw [et]
  have hrow := fun (o : Nat) (h : (o : Int) < (reachTab kinds).length) => hsq.row _ (ix_mem (xs := reachTab kinds) (i := (o : Int)) (by omega) h)
  unfold spknot_list at *
  show B _ _ _ (Ret K (tTup (tTup tI)) (klM (reachTab kinds) (headsM (reachTab kinds)).length (headsM (reachTab kinds))))
  generalize reachTab kinds = tb at hsq htl hrow ⊢
  refine b_cons (s_lc 3 (lc_RF (f := fun k : Nat => (k : Int)) (g := fun k : Nat => ix (ix tb (k : Int)) (k : Int) && decide (ix (aroundM tb (k : Int)) 0 = (k : Int))) (own := [("kind", 2)]) b.range (e_lenT b.len (e_var 0)) (by omega) 2 (fun s0 H C cl fp m hx => TW.toT (w_and (t_val (e_ixL (e_ixL (e_var 1) (e_var 2) (atI_ix (by omega) (by omega))) (e_var 2) (atI_ix (by have := hrow m (by omega); omega) (by have := hrow m (by omega); omega)))) (fun h => w_and1 (t_cv (e_ixT (e_call Cknot_around (hr.mono (by decide)) (tb, (m : Int)) (ea_cons (e_var 1) (ea_cons (e_var 2) ea_nil)) (show Sqr tb ∧ 0 ≤ (m : Int) ∧ (m : Int) < tb.length from ⟨hsq, by omega, by omega⟩)) e_int (atI_ix (by omega) (by show 0 < ((aroundM tb (m : Int)).length : Int); have := List.length_pos_of_mem (around_self (by omega) h); omega))) (e_var 2) cv_eqI)))) (fun s0 H C cl fp m hx hd => e_var 2) (blkOk_by (N := ["kinds", "table", "kind", "waiting", "listed", "chosen", "head"]) (sc := defScope sknot_list) (by decide +kernel)) (fun _ _ _ _ _ => pg_name sc_knot_list.nd rfl (by first | exact Or.inl rfl | exact Or.inr rfl))) ?_ rfl sc_knot_list.nd)
  have eh : ((List.range (kinds.length : Int).toNat).filter (fun k : Nat => ix (ix tb (k : Int)) (k : Int) && decide (ix (aroundM tb (k : Int)) 0 = (k : Int)))).map (fun k : Nat => (k : Int)) = headsM tb := by rw [Int.toNat_natCast, ← htl]; rfl
  rw [eh]
  refine b_freeze 3 rfl ?_
  refine b_cons (s_own 4 (el_lst (s := tTup tI) eh_nil) ?_ sc_knot_list.nd)
  have hh := heads_in (tb := tb)
  have hhl : (headsM tb).length ≤ 1000 := by
    unfold headsM; rw [List.length_map]
    have := List.length_filter_le (fun k : Nat => ix (ix tb (k : Int)) (k : Int) && decide (ix (aroundM tb (k : Int)) 0 = (k : Int))) (List.range tb.length)
    rw [List.length_range] at this
    have := hsq.len
    omega
  generalize headsM tb = hs at hh hhl
  refine b_cons (s_while (fun m G' => ∃ ws ls c, (ws.length = m ∧ inB tb ws ∧ ls ++ klM tb ws.length ws = klM tb hs.length hs ∧ ls.length + ws.length ≤ 1000) ∧ G' = [.vl (tTup (tTup tI)) kinds, .vl (tLst (tLst tB)) tb, .un, .vl (tLst tI) ws, .ow (tTup tI) ls, c, .un]) _ _ (Sub.refl _) ⟨hs, [], _, ⟨rfl, hh, rfl, by simpa using hhl⟩, rfl⟩ ?_)
  rintro m _ ⟨ws, ls, c, ⟨hm, hin, hk, hb⟩, rfl⟩
  refine ⟨_, t_lst (e_var 3), fun h => ?_, fun h => ?_⟩
  · have hne : ws.isEmpty = false := by simpa using h
    have hp : 0 < ws.length := by cases ws with | nil => cases hne | cons x xs => simp
    have hmem := nextHM_mem (tb := tb) hp
    have hc := hin _ hmem
    have hfl : (ws.filter fun h => !decide (h = nextHM tb ws)).length < ws.length := List.length_filter_lt_length_iff_exists.mpr ⟨nextHM tb ws, hmem, by simp⟩
    refine b_cons (s_set 5 (e_call Cnext_head (hr.mono (by decide)) (tb, ws) (ea_cons (e_var 1) (ea_cons (e_var 3) ea_nil)) (show Sqr tb ∧ inB tb ws ∧ 0 < ws.length from ⟨hsq, hin, hp⟩)) ?_ sc_knot_list.nd)
    refine b_cons (s_app 4 rfl (e_call Cknot_around (hr.mono (by decide)) (tb, nextHM tb ws) (ea_cons (e_var 1) (ea_cons (e_var 5) ea_nil)) (show Sqr tb ∧ 0 ≤ nextHM tb ws ∧ nextHM tb ws < tb.length from ⟨hsq, hc.1, hc.2⟩)) (by omega) ?_)
    refine b_cons (s_lc 3 (lc_LF (f := fun x => x) (g := fun h => !decide (h = nextHM tb ws)) (own := [("head", 6)]) (e_var 3) 6 (fun s0 H C cl fp m x hx => t_cv (e_var 6) (e_var 5) cv_neI) (fun s0 H C cl fp m x hx hd => e_var 6) (blkOk_by (N := ["kinds", "table", "kind", "waiting", "listed", "chosen", "head"]) (sc := defScope sknot_list) (by decide +kernel)) (by omega) (fun _ _ _ _ _ => pg_name sc_knot_list.nd rfl (by first | exact Or.inl rfl | exact Or.inr rfl))) ?_ rfl sc_knot_list.nd)
    rw [List.map_id']
    refine b_freeze 3 rfl ?_
    refine b_nil ⟨_, by rw [hm] at hfl; exact hfl, _, _, _, ⟨rfl, fun x hx => hin x (List.mem_filter.mp hx).1, ?_, by rw [List.length_append, List.length_singleton]; omega⟩, rfl⟩
    rw [← hk, List.append_assoc]
    congr 1
    have e1 : klM tb ws.length ws = aroundM tb (nextHM tb ws) :: klM tb (ws.length - 1) (ws.filter fun h => !decide (h = nextHM tb ws)) := by
      obtain ⟨n, hn⟩ : ∃ n, ws.length = n + 1 := ⟨ws.length - 1, by omega⟩
      rw [hn]
      show (if ws.isEmpty = true then [] else _) = _
      rw [if_neg (by rw [hne]; decide)]
      rfl
    rw [e1]
    show _ :: _ = _ :: _
    rw [klM_fuel tb _ (ws.length - 1) _ (Nat.le_refl _) (by omega)]
    rfl
  · have hw : ws = [] := by cases ws with | nil => rfl | cons x xs => cases h
    subst hw
    refine b_freeze 4 rfl ?_
    refine b_cons (s_ret (e_tupL b.tuple (e_var 4)) (fun M v r => ret_is r ?_))
    rw [← hk]
    show ls ++ [] = ls
    simp
end

/-! knots and their heads -/
def R (tb : List (List Bool)) (a b : Int) : Prop := ix (ix tb a) b = true
theorem reach_R {kinds : List (List Int)} {a b : Nat} (ha : a < kinds.length) (hb : b < kinds.length) : R (reachTab kinds) a b ↔ Rch kinds a b := by
  classical
  unfold R reachTab tabP
  rw [ix_range ha]
  unfold rowP
  rw [ix_range hb]
  exact decide_eq_true_iff
structure Trn (tb : List (List Bool)) : Prop where
  sq : Sqr tb
  tr : ∀ a c b : Int, (0 ≤ a ∧ a < tb.length) → (0 ≤ c ∧ c < tb.length) → (0 ≤ b ∧ b < tb.length) → R tb a c → R tb c b → R tb a b
theorem reach_trn {kinds : List (List Int)} {n e : Int} (h : Good kinds n e) (hn : n ≤ 1000) : Trn (reachTab kinds) := by
  obtain ⟨hs, hl⟩ := reachTab_sqr h hn
  refine ⟨hs, fun a c b ha hc hb h1 h2 => ?_⟩
  rw [hl] at ha hc hb
  obtain ⟨a, rfl⟩ : ∃ k : Nat, a = (k : Int) := ⟨a.toNat, by omega⟩
  obtain ⟨c, rfl⟩ : ∃ k : Nat, c = (k : Int) := ⟨c.toNat, by omega⟩
  obtain ⟨b, rfl⟩ : ∃ k : Nat, b = (k : Int) := ⟨b.toNat, by omega⟩
  rw [reach_R (by omega) (by omega)] at h1 h2 ⊢
  exact Pth.trans h1 (by omega) h2
theorem mem_around {tb : List (List Bool)} {k x : Int} : x ∈ aroundM tb k ↔ ∃ o : Nat, o < tb.length ∧ x = (o : Int) ∧ R tb k o ∧ R tb o k := by
  unfold aroundM R
  constructor
  · intro h
    obtain ⟨o, ho, rfl⟩ := List.mem_map.mp h
    obtain ⟨h1, h2⟩ := List.mem_filter.mp ho
    obtain ⟨q1, q2⟩ := (Bool.and_eq_true _ _).mp h2
    exact ⟨o, List.mem_range.mp h1, rfl, q1, q2⟩
  · rintro ⟨o, h1, rfl, h2, h3⟩
    exact List.mem_map.mpr ⟨o, List.mem_filter.mpr ⟨List.mem_range.mpr h1, by rw [h2, h3]; rfl⟩, rfl⟩
theorem around_eq {tb : List (List Bool)} (T : Trn tb) {a b : Int} (ha : 0 ≤ a ∧ a < tb.length) (hb : 0 ≤ b ∧ b < tb.length) (h1 : R tb a b) (h2 : R tb b a) : aroundM tb a = aroundM tb b := by
  unfold aroundM
  congr 1
  apply List.filter_congr
  intro o ho
  have ho := List.mem_range.mp ho
  have hoi : 0 ≤ (o : Int) ∧ (o : Int) < tb.length := by omega
  have e1 : R tb a o ↔ R tb b o := ⟨fun h => T.tr b a o hb ha hoi h2 h, fun h => T.tr a b o ha hb hoi h1 h⟩
  have e2 : R tb o a ↔ R tb o b := ⟨fun h => T.tr o a b hoi ha hb h h1, fun h => T.tr o b a hoi hb ha h h2⟩
  unfold R at e1 e2
  rw [Bool.eq_iff_iff, Bool.and_eq_true, Bool.and_eq_true, e1, e2]
structure Hd (tb : List (List Bool)) (h : Int) : Prop where
  b : 0 ≤ h ∧ h < tb.length
  self : R tb h h
  fst : ix (aroundM tb h) 0 = h
theorem heads_hd {tb : List (List Bool)} : ∀ h ∈ headsM tb, Hd tb h := fun h hh => by
  obtain ⟨k, hk, rfl⟩ := List.mem_map.mp hh
  obtain ⟨h1, h2⟩ := List.mem_filter.mp hk
  have h1 := List.mem_range.mp h1
  obtain ⟨q1, q2⟩ := (Bool.and_eq_true _ _).mp h2
  exact ⟨by omega, q1, of_decide_eq_true q2⟩
theorem hd_eq {tb : List (List Bool)} (T : Trn tb) {a b : Int} (ha : Hd tb a) (hb : Hd tb b) (h1 : R tb a b) (h2 : R tb b a) : a = b := by
  rw [← ha.fst, ← hb.fst, around_eq T ha.b hb.b h1 h2]
theorem hd_inj {tb : List (List Bool)} {a b : Int} (ha : Hd tb a) (hb : Hd tb b) : aroundM tb a = aroundM tb b ↔ a = b := ⟨fun h => by rw [← ha.fst, ← hb.fst, h], fun h => by rw [h]⟩
theorem filter_le' {α : Type} {p q : α → Bool} : ∀ {xs : List α}, (∀ x ∈ xs, p x = true → q x = true) → (xs.filter p).length ≤ (xs.filter q).length
  | [], _ => Nat.le_refl _
  | x :: xs, h => by
    have ih := filter_le' (p := p) (q := q) (xs := xs) fun y hy => h y (List.mem_cons_of_mem _ hy)
    have hx := h x (List.mem_cons_self ..)
    cases hp : p x with
    | true => rw [List.filter_cons_of_pos hp, List.filter_cons_of_pos (hx hp), List.length_cons, List.length_cons]; omega
    | false =>
      rw [List.filter_cons_of_neg (by rw [hp]; decide)]
      cases hq : q x with
      | true => rw [List.filter_cons_of_pos hq, List.length_cons]; omega
      | false => rw [List.filter_cons_of_neg (by rw [hq]; decide)]; exact ih
theorem filter_lt' {α : Type} {p q : α → Bool} : ∀ {xs : List α}, (∀ x ∈ xs, p x = true → q x = true) → (∃ x ∈ xs, q x = true ∧ p x = false) → (xs.filter p).length < (xs.filter q).length
  | [], _, ⟨x, hx, _⟩ => by cases hx
  | x :: xs, h, ⟨y, hy, h1, h2⟩ => by
    have hl := filter_le' (p := p) (q := q) (xs := xs) fun z hz => h z (List.mem_cons_of_mem _ hz)
    rcases List.mem_cons.mp hy with z | z
    · subst z
      rw [List.filter_cons_of_neg (by rw [h2]; decide), List.filter_cons_of_pos h1, List.length_cons]; omega
    · have ih := filter_lt' (p := p) (q := q) (xs := xs) (fun z hz => h z (List.mem_cons_of_mem _ hz)) ⟨y, z, h1, h2⟩
      have hx := h x (List.mem_cons_self ..)
      cases hp : p x with
      | true => rw [List.filter_cons_of_pos hp, List.filter_cons_of_pos (hx hp), List.length_cons, List.length_cons]; omega
      | false =>
        rw [List.filter_cons_of_neg (by rw [hp]; decide)]
        cases hq : q x with
        | true => rw [List.filter_cons_of_pos hq, List.length_cons]; omega
        | false => rw [List.filter_cons_of_neg (by rw [hq]; decide)]; exact ih
/-- among heads one is not blocked -/
theorem one_free {tb : List (List Bool)} (T : Trn tb) {ws : List Int} (hw : ∀ o ∈ ws, Hd tb o) : ∀ (c : Nat) (h : Int), h ∈ ws → (ws.filter fun o => ix (ix tb h) o).length ≤ c → ∃ o ∈ ws, blockedM tb ws o = false
  | 0, h, hh, hc => by
    have : h ∈ ws.filter fun o => ix (ix tb h) o := List.mem_filter.mpr ⟨hh, (hw h hh).self⟩
    have := List.length_pos_of_mem this
    omega
  | c + 1, h, hh, hc => by
    cases hb : blockedM tb ws h with
    | false => exact ⟨h, hh, hb⟩
    | true =>
      obtain ⟨o, ho, h2⟩ := List.any_eq_true.mp hb
      obtain ⟨q1, q2⟩ := (Bool.and_eq_true _ _).mp h2
      have q1 : o ≠ h := by simpa using q1
      refine one_free T hw c o ho ?_
      have hlt : (ws.filter fun x => ix (ix tb o) x).length < (ws.filter fun x => ix (ix tb h) x).length := by
        refine filter_lt' (fun x hx h3 => T.tr h o x (hw h hh).b (hw o ho).b (hw x hx).b q2 h3) ⟨h, hh, (hw h hh).self, ?_⟩
        cases q : ix (ix tb o) h with
        | false => rfl
        | true => exact absurd (hd_eq T (hw o ho) (hw h hh) q q2) q1
      omega
theorem next_free {tb : List (List Bool)} (T : Trn tb) {ws : List Int} (hw : ∀ o ∈ ws, Hd tb o) (hp : 0 < ws.length) : ∃ rest, (ws.filter fun h => !blockedM tb ws h) = nextHM tb ws :: rest := by
  obtain ⟨x, hx⟩ : ∃ x, x ∈ ws := ⟨ws[0], List.getElem_mem hp⟩
  obtain ⟨o, ho, hb⟩ := one_free T hw _ x hx (Nat.le_refl _)
  have hf : (ws.filter fun h => !blockedM tb ws h).head? = ws.find? fun h => !blockedM tb ws h := List.head?_filter
  cases q : ws.filter fun h => !blockedM tb ws h with
  | nil =>
    have : o ∈ ws.filter fun h => !blockedM tb ws h := List.mem_filter.mpr ⟨ho, by rw [hb]; rfl⟩
    rw [q] at this; cases this
  | cons y ys =>
    rw [q] at hf
    refine ⟨ys, ?_⟩
    unfold nextHM
    rw [← hf]; rfl

theorem klM_mem {tb : List (List Bool)} : ∀ (n : Nat) (ws : List Int), ∀ knot ∈ klM tb n ws, ∃ h, knot = aroundM tb h
  | 0, ws, knot, hk => by cases hk
  | n + 1, ws, knot, hk => by
    unfold klM at hk
    split at hk
    · cases hk
    · rcases List.mem_cons.mp hk with z | z
      · exact ⟨_, z⟩
      · exact klM_mem n _ knot z
theorem knots_in {kinds : List (List Int)} {n e : Int} (h : Good kinds n e) (hn : n ≤ 1000) : ∀ knot ∈ knotsM kinds, knot.length ≤ kinds.length ∧ ∀ k ∈ knot, 0 ≤ k ∧ k < kinds.length := fun knot hk => by
  obtain ⟨hd, rfl⟩ := klM_mem _ _ knot hk
  obtain ⟨_, hl⟩ := reachTab_sqr h hn
  refine ⟨?_, fun k hk => ?_⟩
  · unfold aroundM
    rw [List.length_map]
    have := List.length_filter_le (fun o : Nat => ix (ix (reachTab kinds) hd) (o : Int) && ix (ix (reachTab kinds) (o : Int)) hd) (List.range (reachTab kinds).length)
    rw [List.length_range] at this
    omega
  · obtain ⟨o, h1, rfl, _, _⟩ := mem_around.mp hk
    omega
theorem klM_len (tb : List (List Bool)) : ∀ (n : Nat) (ws : List Int), (klM tb n ws).length ≤ n
  | 0, ws => Nat.le_refl _
  | n + 1, ws => by
    unfold klM
    split
    · exact Nat.zero_le _
    · rw [List.length_cons]; have := klM_len tb n (ws.filter fun h => !decide (h = nextHM tb ws)); omega
theorem knots_len {kinds : List (List Int)} {n e : Int} (h : Good kinds n e) (hn : n ≤ 1000) : (knotsM kinds).length ≤ kinds.length := by
  obtain ⟨_, hl⟩ := reachTab_sqr h hn
  refine Nat.le_trans (klM_len _ _ _) ?_
  unfold headsM
  rw [List.length_map]
  have := List.length_filter_le (fun k : Nat => ix (ix (reachTab kinds) (k : Int)) (k : Int) && decide (ix (aroundM (reachTab kinds) (k : Int)) 0 = (k : Int))) (List.range (reachTab kinds).length)
  rw [List.length_range] at this
  omega
def numSet (m : Int) (a : List (Option Int)) (k : Int) : List (Option Int) := a.set k.toNat (some m)
def numUpTo (knots : List (List Int)) (n : Nat) (m : Nat) : List (Option Int) := (List.range m).foldl (fun a (j : Nat) => (ix knots (j : Int)).foldl (numSet (j : Int)) a) (List.replicate n none)
noncomputable def numbersM (kinds : List (List Int)) : List (Option Int) := numUpTo (knotsM kinds) kinds.length (knotsM kinds).length
theorem numSets_len (m : Int) : ∀ (ks : List Int) (a : List (Option Int)), (ks.foldl (numSet m) a).length = a.length
  | [], a => rfl
  | k :: ks, a => by rw [List.foldl_cons, numSets_len m ks]; unfold numSet; rw [List.length_set]
theorem numUpTo_succ (knots : List (List Int)) (n m : Nat) : numUpTo knots n (m + 1) = (ix knots (m : Int)).foldl (numSet (m : Int)) (numUpTo knots n m) := by
  unfold numUpTo; rw [List.range_succ, List.foldl_append]; rfl
theorem numUpTo_len (knots : List (List Int)) (n : Nat) : ∀ m, (numUpTo knots n m).length = n
  | 0 => by unfold numUpTo; simp
  | m + 1 => by rw [numUpTo_succ, numSets_len, numUpTo_len knots n m]
noncomputable def spknot_numbers (K : Fg) : Sp := spG K (fun i : List (List Int) => [.vl (tTup (tTup tI)) i]) (fun i => Good i 1000 1000) (tTup (tO tI)) (fun i => numbersM i)
section
variable {P : Program} {w : World} {K : Fg} {mg : Str → Option Value} {base : Heap}
theorem sc_knot_numbers : FnScope ["kinds", "numbers", "number", "knot", "kind"] ["kinds"] (defScope sknot_numbers) := ⟨rfl, rfl, rfl, by decide +kernel, rfl, by decide +kernel, by decide +kernel⟩
theorem okknot_numbers {f : Addr} {fd : FuncData} (F : Fun K "knot_numbers" "knot_numbers" sknot_numbers f fd) (b : Bi mg) (Cknot_list : Fn P w K mg base CX0 3 "knot_list" ["kinds"] (spknot_list K)) : FnOk P w K mg base CX0 4 f fd ["kinds"] (spknot_numbers K) := by
  refine fn_ok F sc_knot_numbers 4 rfl (fun _ => rfl) (fun cdv A outer s H E hr kinds hg => ?_)
  have hlen := hg.len
  have hin := knots_in hg (by omega)
  refine b_cons (s_own 1 (el_rep (s := tO tI) (EL.toE (el_lst (s := tO tI) (eh_cons (TL.E.as (t := tO tI) (y := none) e_non (fun M v r => r)) eh_nil))) (e_lenT b.len (e_var 0)) (by omega) (by simp only [List.length_cons, List.length_nil]; omega)) ?_ sc_knot_numbers.nd)
  have er : ∀ n : Nat, (List.replicate n [(none : Option Int)]).flatten = List.replicate n none := fun n => by
    induction n with
    | zero => rfl
    | succ n ih => rw [List.replicate_succ, List.flatten_cons, ih]; rfl
  rw [er, Int.toNat_natCast]
  refine b_cons (s_forEn 2 3 (fun m G' => G' = [.vl (tTup (tTup tI)) kinds, .ow (tO tI) (numUpTo (knotsM kinds) kinds.length m), .un, .un, .un]) _ b.enumerate (e_call Cknot_list (hr.mono (by decide)) kinds (ea_cons (e_var 0) ea_nil) hg) (Sub.refl _) rfl ?_ ?_ sc_knot_numbers.nd rfl)
  · rintro m knot _ hm rfl
    have hk := hin knot (List.mem_of_getElem? hm)
    have hkm : ix (knotsM kinds) (m : Int) = knot := ix_getElem (by omega) (by rw [Int.toNat_natCast]; exact hm)
    rw [numUpTo_succ, hkm]
    have hnl := numUpTo_len (knotsM kinds) kinds.length m
    generalize numUpTo (knotsM kinds) kinds.length m = acc at hnl ⊢
    refine b_cons (s_forT 4 (fun j G' => G' = [.vl (tTup (tTup tI)) kinds, .ow (tO tI) ((knot.take j).foldl (numSet (m : Int)) acc), .vl tI (m : Int), .vl (tTup tI) knot, .un]) _ (e_var 3) (Sub.refl _) rfl ?_ ?_ sc_knot_numbers.nd rfl)
    · rintro j k _ hj rfl
      have hkb := hk.2 k (List.mem_of_getElem? hj)
      have hal := numSets_len (m : Int) (knot.take j) acc
      rw [take_snoc hj, List.foldl_append]
      refine b_cons (s_seti 1 (m := k.toNat) rfl (TL.E.as (s := tI) (x := (m : Int)) (t := tO tI) (y := some (m : Int)) (e_var 2) (fun M v r => r)) (e_var 4) (ixNp (by omega) (by omega)) ?_)
      exact B.weak (b_nil rfl) (.same (.same (.same (.same (.un .nil)))))
    · rintro _ rfl
      rw [List.take_length]
      exact B.weak (b_nil rfl) (.same (.same (.un (.un (.un .nil)))))
  · rintro _ rfl
    refine b_freeze 1 rfl ?_
    exact b_cons (s_ret (e_tupL b.tuple (e_var 1)) (fun M v r => r))
end

/-! the number of a kind is that of the one knot that holds it -/
theorem numSets_ix (m : Int) : ∀ (ks : List Int) (a : List (Option Int)) (k : Nat), k < a.length → (∀ t ∈ ks, 0 ≤ t) → (ks.foldl (numSet m) a)[k]? = if (k : Int) ∈ ks then some (some m) else a[k]?
  | [], a, k, _, _ => by rw [List.foldl_nil, if_neg (by simp)]
  | t :: ks, a, k, hk, h0 => by
    have t0 := h0 t (List.mem_cons_self ..)
    rw [List.foldl_cons, numSets_ix m ks _ k (by unfold numSet; rw [List.length_set]; exact hk) fun u hu => h0 u (List.mem_cons_of_mem _ hu)]
    by_cases z : (k : Int) ∈ ks
    · rw [if_pos z, if_pos (List.mem_cons_of_mem _ z)]
    · rw [if_neg z]
      unfold numSet
      by_cases y : (k : Int) = t
      · rw [if_pos (by rw [y]; exact List.mem_cons_self ..), show t.toNat = k by omega, List.getElem?_set_self hk]
      · rw [if_neg (fun q => (List.mem_cons.mp q).elim y z), List.getElem?_set_ne (by omega)]
def holds (knots : List (List Int)) (k : Int) (m : Nat) : List Nat := (List.range m).filter fun j : Nat => decide (k ∈ ix knots (j : Int))
theorem numUpTo_get (knots : List (List Int)) (n : Nat) (h0 : ∀ x ∈ knots, ∀ t ∈ x, (0 : Int) ≤ t) (k : Nat) (hk : k < n) : ∀ m : Nat, m ≤ knots.length → (numUpTo knots n m)[k]? = some ((holds knots k m).getLast?.map fun j : Nat => (j : Int))
  | 0, _ => by
    show (List.replicate n none)[k]? = _
    rw [List.getElem?_replicate, if_pos hk]; rfl
  | m + 1, hm => by
    have hx : ∀ t ∈ ix knots (m : Int), (0 : Int) ≤ t := h0 _ (ix_mem (xs := knots) (i := (m : Int)) (by omega) (by omega))
    rw [numUpTo_succ, numSets_ix _ _ _ _ (by rw [numUpTo_len]; exact hk) hx, numUpTo_get knots n h0 k hk m (by omega)]
    unfold holds
    rw [List.range_succ, List.filter_append]
    by_cases z : (k : Int) ∈ ix knots (m : Int)
    · rw [if_pos z, List.filter_cons_of_pos (by simpa using z)]; simp
    · rw [if_neg z, List.filter_cons_of_neg (by simpa using z)]; simp
theorem one_head {α : Type} : ∀ {xs : List α}, xs.length ≤ 1 → xs.getLast? = xs.head?
  | [], _ => rfl
  | [_], _ => rfl
  | _ :: _ :: _, h => by simp at h
def klH (tb : List (List Bool)) : Nat → List Int → List Int
  | 0, _ => []
  | n + 1, ws => if ws.isEmpty then [] else nextHM tb ws :: klH tb n (ws.filter fun h => !decide (h = nextHM tb ws))
theorem klM_klH (tb : List (List Bool)) : ∀ (n : Nat) (ws : List Int), klM tb n ws = (klH tb n ws).map (aroundM tb)
  | 0, _ => rfl
  | n + 1, ws => by
    unfold klM klH
    split
    · rfl
    · rw [List.map_cons, klM_klH tb n]
theorem klH_sub (tb : List (List Bool)) : ∀ (n : Nat) (ws : List Int), ∀ h ∈ klH tb n ws, h ∈ ws
  | 0, ws, h, hh => by cases hh
  | n + 1, ws, h, hh => by
    unfold klH at hh
    split at hh
    · cases hh
    · rename_i q
      rcases List.mem_cons.mp hh with z | z
      · rw [z]
        exact nextHM_mem (by cases ws with | nil => exact absurd rfl q | cons x xs => simp)
      · exact (List.mem_filter.mp (klH_sub tb n _ h z)).1
theorem klH_nodup (tb : List (List Bool)) : ∀ (n : Nat) (ws : List Int), (klH tb n ws).Nodup
  | 0, ws => List.nodup_nil
  | n + 1, ws => by
    unfold klH
    split
    · exact List.nodup_nil
    · refine List.nodup_cons.mpr ⟨fun h => ?_, klH_nodup tb n _⟩
      have := (List.mem_filter.mp (klH_sub tb n _ _ h)).2
      simp at this
theorem around_disj {tb : List (List Bool)} (T : Trn tb) {a b x : Int} (ha : Hd tb a) (hb : Hd tb b) (h1 : x ∈ aroundM tb a) (h2 : x ∈ aroundM tb b) : a = b := by
  obtain ⟨o, ho, rfl, r1, r2⟩ := mem_around.mp h1
  obtain ⟨o', ho', e, r3, r4⟩ := mem_around.mp h2
  have : o = o' := by omega
  subst this
  exact hd_eq T ha hb (T.tr a o b ha.b ⟨by omega, by omega⟩ hb.b r1 r4) (T.tr b o a hb.b ⟨by omega, by omega⟩ ha.b r3 r2)
theorem knots_disj {kinds : List (List Int)} {n e : Int} (h : Good kinds n e) (hn : n ≤ 1000) {i j : Nat} {x : Int} (hi : i < (knotsM kinds).length) (hj : j < (knotsM kinds).length) (h1 : x ∈ ix (knotsM kinds) (i : Int)) (h2 : x ∈ ix (knotsM kinds) (j : Int)) : i = j := by
  have T := reach_trn h hn
  have hd := heads_hd (tb := reachTab kinds)
  have e : knotsM kinds = (klH (reachTab kinds) (headsM (reachTab kinds)).length (headsM (reachTab kinds))).map (aroundM (reachTab kinds)) := klM_klH _ _ _
  have nd := klH_nodup (reachTab kinds) (headsM (reachTab kinds)).length (headsM (reachTab kinds))
  have sb := klH_sub (reachTab kinds) (headsM (reachTab kinds)).length (headsM (reachTab kinds))
  rw [e] at h1 h2 hi hj
  generalize klH (reachTab kinds) (headsM (reachTab kinds)).length (headsM (reachTab kinds)) = hs at nd sb h1 h2 hi hj
  rw [List.length_map] at hi hj
  have gi : ix (hs.map (aroundM (reachTab kinds))) (i : Int) = aroundM (reachTab kinds) hs[i] := ix_getElem (by omega) (by rw [Int.toNat_natCast, List.getElem?_map, List.getElem?_eq_getElem hi]; rfl)
  have gj : ix (hs.map (aroundM (reachTab kinds))) (j : Int) = aroundM (reachTab kinds) hs[j] := ix_getElem (by omega) (by rw [Int.toNat_natCast, List.getElem?_map, List.getElem?_eq_getElem hj]; rfl)
  rw [gi] at h1
  rw [gj] at h2
  have := around_disj T (hd _ (sb _ (List.getElem_mem hi))) (hd _ (sb _ (List.getElem_mem hj))) h1 h2
  exact (List.getElem_inj nd).mp this
theorem filter_one_of {α : Type} {p : α → Bool} : ∀ {xs : List α}, xs.Nodup → (∀ a ∈ xs, ∀ b ∈ xs, p a = true → p b = true → a = b) → (xs.filter p).length ≤ 1
  | [], _, _ => by simp
  | x :: xs, nd, h => by
    obtain ⟨n1, n2⟩ := List.nodup_cons.mp nd
    cases hp : p x with
    | false =>
      rw [List.filter_cons_of_neg (by rw [hp]; decide)]
      exact filter_one_of n2 fun a ha b hb => h a (List.mem_cons_of_mem _ ha) b (List.mem_cons_of_mem _ hb)
    | true =>
      rw [List.filter_cons_of_pos hp]
      have : xs.filter p = [] := List.filter_eq_nil_iff.mpr fun a ha q => n1 (by rw [h x (List.mem_cons_self ..) a (List.mem_cons_of_mem _ ha) hp q]; exact ha)
      rw [this]; simp
theorem number_is {kinds : List (List Int)} {n e : Int} (h : Good kinds n e) (hn : n ≤ 1000) {k : Int} (h0 : 0 ≤ k) (h1 : k < kinds.length) : ix (numbersM kinds) k = (holds (knotsM kinds) k (knotsM kinds).length).head?.map fun j : Nat => (j : Int) := by
  have hin := knots_in h hn
  apply ix_getElem h0
  unfold numbersM
  have q := numUpTo_get (knotsM kinds) kinds.length (fun x hx t ht => ((hin x hx).2 t ht).1) k.toNat (by omega) (knotsM kinds).length (Nat.le_refl _)
  rw [show ((k.toNat : Nat) : Int) = k by omega] at q
  rw [q, one_head]
  unfold holds
  refine filter_one_of List.nodup_range fun a ha b hb pa pb => ?_
  exact knots_disj h hn (List.mem_range.mp ha) (List.mem_range.mp hb) (of_decide_eq_true pa) (of_decide_eq_true pb)
/-- the first of a list, None behind it -/
theorem head_none (xs : List Nat) : ix ((xs.map fun j : Nat => some (j : Int)) ++ [none]) 0 = xs.head?.map fun j : Nat => (j : Int) := by
  cases xs with
  | nil => exact ix_getElem (by omega) rfl
  | cons x xs => exact ix_getElem (by omega) rfl

/-! live kinds, the ways to a landing -/
theorem flatMap_congr2 {α β : Type} {f g : α → List β} : ∀ {l : List α}, (∀ a ∈ l, f a = g a) → l.flatMap f = l.flatMap g
  | [], _ => rfl
  | a :: l, h => by rw [List.flatMap_cons, List.flatMap_cons, h a (List.mem_cons_self ..), flatMap_congr2 fun b hb => h b (List.mem_cons_of_mem _ hb)]
def knotted (tb : List (List Bool)) (t : Int) : Bool := ix (ix tb t) t
def rimM (kinds : List (List Int)) (tb : List (List Bool)) (x : Int) (k : Int) : Bool := (List.range kinds.length).any fun j : Nat => (decide ((j : Int) = k) || ix (ix tb k) (j : Int)) && decide (x ∈ ix kinds (j : Int))
def endM (tb : List (List Bool)) (k : Int) : Bool := (List.range tb.length).any fun j : Nat => ix (ix tb k) (j : Int) && ix (ix tb (j : Int)) (j : Int)
def aliveM (kinds : List (List Int)) (tb : List (List Bool)) (k : Int) : Bool := endM tb k || rimM kinds tb (-1) k
def isL (tb : List (List Bool)) (u : Int) : Bool := decide (u = -1) || (decide (0 ≤ u) && knotted tb u)
def goesM (kinds : List (List Int)) (tb : List (List Bool)) (u : Int) : Bool := !isL tb u && (decide (0 ≤ u) && aliveM kinds tb u)
def passes (tb : List (List Bool)) (u : Int) : Bool := decide (0 ≤ u) && !knotted tb u
def land (kinds : List (List Int)) (tb : List (List Bool)) : Nat → Int → List (List Int)
  | 0, _ => []
  | f + 1, t => (List.range (ix kinds t).length).flatMap fun e : Nat =>
      if isL tb (ix (ix kinds t) (e : Int)) = true then [[(e : Int)]] else
      if goesM kinds tb (ix (ix kinds t) (e : Int)) = true then (land kinds tb f (ix (ix kinds t) (e : Int))).map ((e : Int) :: ·) else []
def cntW (kinds : List (List Int)) (tb : List (List Bool)) : Nat → Int → Nat
  | 0, _ => 0
  | f + 1, t => ((ix kinds t).map fun u => 1 + (if passes tb u = true then cntW kinds tb f u else 0)).sum
def rk (tb : List (List Bool)) (t : Int) : Nat := ((List.range tb.length).filter fun j : Nat => ix (ix tb t) (j : Int)).length
structure Wb (kinds : List (List Int)) (tb : List (List Bool)) : Prop where
  T : Trn tb
  len : tb.length = kinds.length
  edge : ∀ t u : Int, 0 ≤ t → t < kinds.length → u ∈ ix kinds t → 0 ≤ u → u < kinds.length ∧ R tb t u
  row : ∀ t u : Int, 0 ≤ t → t < kinds.length → u ∈ ix kinds t → u < kinds.length
theorem web_of {kinds : List (List Int)} {n e : Int} (h : Good kinds n e) (hn : n ≤ 1000) : Wb kinds (reachTab kinds) := by
  obtain ⟨hs, hl⟩ := reachTab_sqr h hn
  have hr : ∀ t u : Int, 0 ≤ t → t < kinds.length → u ∈ ix kinds t → u < kinds.length := fun t u t0 t1 hu => ((h.row _ (ix_mem (xs := kinds) t0 t1)).2 u hu).2
  refine ⟨reach_trn h hn, hl, fun t u t0 t1 hu u0 => ?_, hr⟩
  have hu1 := hr t u t0 t1 hu
  refine ⟨hu1, ?_⟩
  obtain ⟨t, rfl⟩ : ∃ k : Nat, t = (k : Int) := ⟨t.toNat, by omega⟩
  obtain ⟨u, rfl⟩ : ∃ k : Nat, u = (k : Int) := ⟨u.toNat, by omega⟩
  rw [reach_R (by omega) (by omega)]
  exact .one hu
section
variable {kinds : List (List Int)} {tb : List (List Bool)}
theorem rk_le (t : Int) : rk tb t ≤ tb.length := by
  unfold rk
  have := List.length_filter_le (fun j : Nat => ix (ix tb t) (j : Int)) (List.range tb.length)
  rw [List.length_range] at this; exact this
theorem rk_lt (W : Wb kinds tb) {t u : Int} (t0 : 0 ≤ t) (t1 : t < kinds.length) (hu : u ∈ ix kinds t) (hp : passes tb u = true) : rk tb u < rk tb t := by
  obtain ⟨h0, h1⟩ := (Bool.and_eq_true _ _).mp hp
  have h0 := of_decide_eq_true h0
  have h1 : knotted tb u = false := by simpa using h1
  obtain ⟨u1, hr⟩ := W.edge t u t0 t1 hu h0
  unfold rk
  refine filter_lt' (fun j hj h => ?_) ⟨u.toNat, List.mem_range.mpr (by rw [W.len]; omega), ?_, ?_⟩
  · have := List.mem_range.mp hj
    exact W.T.tr t u (j : Int) ⟨t0, by rw [W.len]; exact t1⟩ ⟨h0, by rw [W.len]; exact u1⟩ ⟨by omega, by omega⟩ hr h
  · rw [show ((u.toNat : Nat) : Int) = u by omega]; exact hr
  · rw [show ((u.toNat : Nat) : Int) = u by omega]; exact h1
theorem goes_passes {u : Int} (h : goesM kinds tb u = true) : passes tb u = true := by
  unfold goesM isL at h
  unfold passes
  cases h1 : decide (0 ≤ u) <;> cases h2 : knotted tb u <;> simp [h1, h2] at h ⊢
theorem row_mem (t : Int) {e : Nat} (he : e < (ix kinds t).length) : ix (ix kinds t) (e : Int) ∈ ix kinds t := ix_mem (by omega) (by omega)
theorem land_fuel (W : Wb kinds tb) : ∀ (f g : Nat) (t : Int), 0 ≤ t → t < kinds.length → rk tb t < f → rk tb t < g → land kinds tb f t = land kinds tb g t
  | 0, g, t, _, _, h, _ => by omega
  | f + 1, 0, t, _, _, _, h => by omega
  | f + 1, g + 1, t, t0, t1, h1, h2 => by
    unfold land
    apply flatMap_congr2
    intro e he
    have hm := row_mem (kinds := kinds) t (List.mem_range.mp he)
    split
    · rfl
    · split
      · rename_i hg
        have hp := goes_passes hg
        have hlt := rk_lt W t0 t1 hm hp
        have u0 : 0 ≤ ix (ix kinds t) (e : Int) := of_decide_eq_true ((Bool.and_eq_true _ _).mp hp).1
        rw [land_fuel W f g _ u0 (W.row t _ t0 t1 hm) (by omega) (by omega)]
      · rfl
theorem cnt_fuel (W : Wb kinds tb) : ∀ (f g : Nat) (t : Int), 0 ≤ t → t < kinds.length → rk tb t < f → rk tb t < g → cntW kinds tb f t = cntW kinds tb g t
  | 0, g, t, _, _, h, _ => by omega
  | f + 1, 0, t, _, _, _, h => by omega
  | f + 1, g + 1, t, t0, t1, h1, h2 => by
    unfold cntW
    congr 1
    apply List.map_congr_left
    intro u hm
    split
    · rename_i hp
      have hlt := rk_lt W t0 t1 hm hp
      have u0 : 0 ≤ u := of_decide_eq_true ((Bool.and_eq_true _ _).mp hp).1
      rw [cnt_fuel W f g _ u0 (W.row t _ t0 t1 hm) (by omega) (by omega)]
    · rfl
def landK (kinds : List (List Int)) (tb : List (List Bool)) (t : Int) : List (List Int) := land kinds tb (tb.length + 1) t
def cntK (kinds : List (List Int)) (tb : List (List Bool)) (t : Int) : Nat := cntW kinds tb (tb.length + 1) t
def expK (kinds : List (List Int)) (tb : List (List Bool)) (p : List Int × Int) : List (List Int) := if isL tb p.2 = true then [p.1] else if goesM kinds tb p.2 = true then (landK kinds tb p.2).map (p.1 ++ ·) else []
def szK (kinds : List (List Int)) (tb : List (List Bool)) (u : Int) : Nat := 1 + (if passes tb u = true then cntK kinds tb u else 0)
def stepsU (kinds : List (List Int)) (w : List Int) (t : Int) : List (List Int × Int) := (List.range (ix kinds t).length).map fun e : Nat => (w ++ [(e : Int)], ix (ix kinds t) (e : Int))
theorem land_step (W : Wb kinds tb) {t : Int} (t0 : 0 ≤ t) (t1 : t < kinds.length) (w : List Int) : (landK kinds tb t).map (w ++ ·) = (stepsU kinds w t).flatMap (expK kinds tb) := by
  unfold landK stepsU
  rw [land, List.map_flatMap, List.flatMap_map]
  apply flatMap_congr2
  intro e he
  have hm := row_mem (kinds := kinds) t (List.mem_range.mp he)
  unfold expK
  dsimp only
  split
  · rfl
  · split
    · rename_i hg
      have hp := goes_passes hg
      have hlt := rk_lt W t0 t1 hm hp
      have u0 : 0 ≤ ix (ix kinds t) (e : Int) := of_decide_eq_true ((Bool.and_eq_true _ _).mp hp).1
      have := rk_le (tb := tb) t
      unfold landK
      rw [land_fuel W tb.length (tb.length + 1) _ u0 (W.row t _ t0 t1 hm) (by omega) (by omega), List.map_map]
      apply List.map_congr_left
      intro x _
      simp
    · rfl
theorem cnt_step (W : Wb kinds tb) {t : Int} (t0 : 0 ≤ t) (t1 : t < kinds.length) : cntK kinds tb t = ((ix kinds t).map (szK kinds tb)).sum := by
  unfold cntK
  rw [cntW]
  congr 1
  apply List.map_congr_left
  intro u hm
  unfold szK
  split
  · rename_i hp
    have hlt := rk_lt W t0 t1 hm hp
    have u0 : 0 ≤ u := of_decide_eq_true ((Bool.and_eq_true _ _).mp hp).1
    have := rk_le (tb := tb) t
    unfold cntK
    rw [cnt_fuel W tb.length (tb.length + 1) _ u0 (W.row t _ t0 t1 hm) (by omega) (by omega)]
  · rfl
theorem ix_rangeMap (xs : List Int) : (List.range xs.length).map (fun e : Nat => ix xs (e : Int)) = xs := by
  apply List.ext_getElem?
  intro i
  rw [List.getElem?_map]
  by_cases h : i < xs.length
  · rw [List.getElem?_range h]
    have := ix_pos (xs := xs) (i := (i : Int)) (by omega) (by omega)
    rw [Int.toNat_natCast] at this
    rw [this]; rfl
  · rw [List.getElem?_eq_none (by simp; omega), List.getElem?_eq_none (by omega)]; rfl
def szS (kinds : List (List Int)) (tb : List (List Bool)) (ps : List (List Int × Int)) : Nat := (ps.map fun p => szK kinds tb p.2).sum
theorem szS_steps (W : Wb kinds tb) {t : Int} (t0 : 0 ≤ t) (t1 : t < kinds.length) (w : List Int) : szS kinds tb (stepsU kinds w t) = cntK kinds tb t := by
  rw [cnt_step W t0 t1]
  unfold szS stepsU
  rw [List.map_map]
  congr 1
  show (List.range (ix kinds t).length).map ((szK kinds tb) ∘ fun e : Nat => ix (ix kinds t) (e : Int)) = _
  rw [← List.map_map, ix_rangeMap]
theorem szS_app (xs ys : List (List Int × Int)) : szS kinds tb (xs ++ ys) = szS kinds tb xs + szS kinds tb ys := by
  unfold szS; rw [List.map_append, List.sum_append]
theorem szS_one (p : List Int × Int) : szS kinds tb [p] = szK kinds tb p.2 := by unfold szS; simp
theorem szS_rev (xs : List (List Int × Int)) : szS kinds tb xs.reverse = szS kinds tb xs := by
  unfold szS; rw [List.map_reverse, List.sum_reverse]
theorem szS_len (xs : List (List Int × Int)) : xs.length ≤ szS kinds tb xs := by
  unfold szS
  induction xs with
  | nil => simp
  | cons x xs ih =>
    rw [List.map_cons, List.sum_cons, List.length_cons]
    have : 1 ≤ szK kinds tb x.2 := by unfold szK; omega
    omega
/-! landings in order -/
theorem lexI_pre (a : Int) (x y : List Int) : lexI (a :: x) (a :: y) = lexI x y := by rw [lexI_cons, if_pos rfl]
theorem land_srtd : ∀ (f : Nat) (t : Int), SrtO.Srtd (fun x y => lexI x y) (land kinds tb f t)
  | 0, t => .nil
  | f + 1, t => by
    unfold land
    have hd : ∀ (e : Nat) (x : List Int), x ∈ (if isL tb (ix (ix kinds t) (e : Int)) = true then [[(e : Int)]] else if goesM kinds tb (ix (ix kinds t) (e : Int)) = true then (land kinds tb f (ix (ix kinds t) (e : Int))).map ((e : Int) :: ·) else []) → ∃ y, x = (e : Int) :: y := fun e x hx => by
      split at hx
      · exact ⟨[], List.mem_singleton.mp hx⟩
      · split at hx
        · obtain ⟨y, _, rfl⟩ := List.mem_map.mp hx
          exact ⟨y, rfl⟩
        · cases hx
    refine List.pairwise_flatMap.mpr ⟨fun e he => ?_, (List.pairwise_lt_range).imp fun {a b} hab x hx y hy => ?_⟩
    · split
      · exact List.pairwise_singleton _ _
      · split
        · refine List.pairwise_map.mpr ((land_srtd f _).imp fun {x y} h => ?_)
          show lexI ((e : Int) :: y) ((e : Int) :: x) = false
          rw [lexI_pre]; exact h
        · exact .nil
    · obtain ⟨x', rfl⟩ := hd a x hx
      obtain ⟨y', rfl⟩ := hd b y hy
      show lexI ((b : Int) :: y') ((a : Int) :: x') = false
      rw [lexI_cons, if_neg (by omega)]
      exact decide_eq_false (by omega)
theorem sorted_land {xs : List (List Int)} {t : Int} (h : xs.Perm (landK kinds tb t)) : sortK (fun x : List Int => x) xs = landK kinds tb t :=
  srtd_uniq ((sortK_perm _ _).trans h) (fun _ _ _ _ e => e) (sortK_srtd _ _) (land_srtd _ _)
theorem land_ne : ∀ (f : Nat) (t : Int), ∀ x ∈ land kinds tb f t, x ≠ []
  | 0, t, x, h => by cases h
  | f + 1, t, x, h => by
    unfold land at h
    obtain ⟨e, _, hx⟩ := List.mem_flatMap.mp h
    split at hx
    · rw [List.mem_singleton.mp hx]; simp
    · split at hx
      · obtain ⟨y, _, rfl⟩ := List.mem_map.mp hx
        simp
      · cases hx
end

theorem tab_row {kinds : List (List Int)} {k : Int} (h0 : 0 ≤ k) (h1 : k < kinds.length) : ix (reachTab kinds) k = rowP kinds kinds.length k.toNat := by
  obtain ⟨k, rfl⟩ : ∃ j : Nat, k = (j : Int) := ⟨k.toNat, by omega⟩
  unfold reachTab tabP
  rw [ix_range (by omega), Int.toNat_natCast]
noncomputable def reachedM (kinds : List (List Int)) (kind : Int) : List Int := ((List.range kinds.length).filter fun o : Nat => ix (ix (reachTab kinds) kind) (o : Int)).map fun o : Nat => (o : Int)
noncomputable def spreached_from (K : Fg) : Sp := spG K (fun i : List (List Int) × Int => [.vl (tTup (tTup tI)) i.1, .vl tI i.2]) (fun i => Good i.1 1000 1000 ∧ 0 ≤ i.2 ∧ i.2 < i.1.length) (tTup tI) (fun i => reachedM i.1 i.2)
theorem mem_reached {kinds : List (List Int)} {k x : Int} : x ∈ reachedM kinds k ↔ (0 ≤ x ∧ x < kinds.length) ∧ ix (ix (reachTab kinds) k) x = true := by
  unfold reachedM
  constructor
  · intro h
    obtain ⟨o, ho, rfl⟩ := List.mem_map.mp h
    obtain ⟨h1, h2⟩ := List.mem_filter.mp ho
    have := List.mem_range.mp h1
    exact ⟨by omega, h2⟩
  · rintro ⟨h1, h2⟩
    exact List.mem_map.mpr ⟨x.toNat, List.mem_filter.mpr ⟨List.mem_range.mpr (by omega), by rw [show ((x.toNat : Nat) : Int) = x by omega]; exact h2⟩, by omega⟩
theorem reached_len (kinds : List (List Int)) (k : Int) : (reachedM kinds k).length ≤ kinds.length := by
  unfold reachedM
  rw [List.length_map]
  have := List.length_filter_le (fun o : Nat => ix (ix (reachTab kinds) k) (o : Int)) (List.range kinds.length)
  rw [List.length_range] at this; exact this
section
variable {P : Program} {w : World} {K : Fg} {mg : Str → Option Value} {base : Heap}
theorem sc_reached_from : FnScope ["kinds", "kind", "flags", "other"] ["kinds", "kind"] (defScope sreached_from) := ⟨rfl, rfl, rfl, by decide +kernel, rfl, by decide +kernel, by decide +kernel⟩
theorem okreached_from {f : Addr} {fd : FuncData} (F : Fun K "reached_from" "reached_from" sreached_from f fd) (b : Bi mg) (Creach_flags : Fn P w K mg base CX0 1 "reach_flags" ["kinds", "kind"] (spreach_flags K)) : FnOk P w K mg base CX0 2 f fd ["kinds", "kind"] (spreached_from K) := by
  refine fn_ok F sc_reached_from 2 rfl (fun _ => rfl) (fun cdv A outer s H E hr ⟨kinds, kind⟩ hp => ?_)
  dsimp only at hp ⊢
  have hlen := hp.1.len
  have hrl := rowP_len kinds kinds.length kind.toNat
  refine b_cons (s_set 2 (e_call Creach_flags (hr.mono (by decide)) (kinds, kind) (ea_cons (e_var 0) (ea_cons (e_var 1) ea_nil)) hp) ?_ sc_reached_from.nd)
  dsimp only
  refine b_cons (s_ret (e_tupL b.tuple (EL.toE (el_lc (lc_RF (f := fun o : Nat => (o : Int)) (g := fun o : Nat => ix (rowP kinds kinds.length kind.toNat) (o : Int)) (own := [("other", 3)]) b.range (e_lenT b.len (e_var 0)) (by omega) 3 (fun s0 H C cl fp m hx => (t_val (e_ixL (e_var 2) (e_var 3) (atI_ix (by omega) (by omega))))) (fun s0 H C cl fp m hx hd => (e_var 3)) (blkOk_by (N := ["kinds", "kind", "flags", "other"]) (sc := defScope sreached_from) (by decide +kernel)) (fun _ _ _ _ _ => pg_name sc_reached_from.nd rfl (by first | exact Or.inl rfl | exact Or.inr rfl))) rfl sc_reached_from.nd))) (fun M v r => ret_is r ?_))
  unfold reachedM
  rw [tab_row hp.2.1 hp.2.2, Int.toNat_natCast]
end

def fnd (S : Int → Bool) : List Bool := [S (-1), S (-2), S (-3)]
theorem fnd_set {S : Int → Bool} {t : Int} (h0 : -3 ≤ t) (h1 : t < 0) : (fnd S).set (-1 - t).toNat true = fnd (fun x => S x || decide (x = t)) := by
  have : t = -1 ∨ t = -2 ∨ t = -3 := by omega
  unfold fnd
  rcases this with rfl | rfl | rfl <;> simp
theorem fnd_same {S T : Int → Bool} (h : ∀ x : Int, -3 ≤ x → x < 0 → S x = T x) : fnd S = fnd T := by
  unfold fnd
  rw [h (-1) (by omega) (by omega), h (-2) (by omega) (by omega), h (-3) (by omega) (by omega)]
def rimU (kinds : List (List Int)) (tb : List (List Bool)) (k : Int) (m : Nat) (x : Int) : Bool := (List.range m).any fun j : Nat => (decide ((j : Int) = k) || ix (ix tb k) (j : Int)) && decide (x ∈ ix kinds (j : Int))
theorem rimU_succ (kinds : List (List Int)) (tb : List (List Bool)) (k : Int) (m : Nat) (x : Int) : rimU kinds tb k (m + 1) x = (rimU kinds tb k m x || ((decide ((m : Int) = k) || ix (ix tb k) (m : Int)) && decide (x ∈ ix kinds (m : Int)))) := by
  unfold rimU; rw [List.range_succ, List.any_append, List.any_cons, List.any_nil, Bool.or_false]
noncomputable def spmarks_beyond (K : Fg) : Sp := spG K (fun i : List (List Int) × Int => [.vl (tTup (tTup tI)) i.1, .vl tI i.2]) (fun i => Good i.1 1000 1000 ∧ 0 ≤ i.2 ∧ i.2 < i.1.length) (tTup tB) (fun i => fnd fun x => rimM i.1 (reachTab i.1) x i.2)
section
variable {P : Program} {w : World} {K : Fg} {mg : Str → Option Value} {base : Heap}
theorem sc_marks_beyond : FnScope ["kinds", "kind", "flags", "found", "other", "target"] ["kinds", "kind"] (defScope smarks_beyond) := ⟨rfl, rfl, rfl, by decide +kernel, rfl, by decide +kernel, by decide +kernel⟩
theorem okmarks_beyond {f : Addr} {fd : FuncData} (F : Fun K "marks_beyond" "marks_beyond" smarks_beyond f fd) (b : Bi mg) (Creach_flags : Fn P w K mg base CX0 1 "reach_flags" ["kinds", "kind"] (spreach_flags K)) : FnOk P w K mg base CX0 2 f fd ["kinds", "kind"] (spmarks_beyond K) := by
  refine fn_ok F sc_marks_beyond 4 rfl (fun _ => rfl) (fun cdv A outer s H E hr ⟨kinds, kind⟩ hp => ?_)
  dsimp only at hp ⊢
  obtain ⟨hg, k0, k1⟩ := hp
  have hlen := hg.len
  have hrl := rowP_len kinds kinds.length kind.toNat
  have htr := tab_row k0 k1
  refine b_cons (s_set 2 (TL.E.is (e_call Creach_flags (hr.mono (by decide)) (kinds, kind) (ea_cons (e_var 0) (ea_cons (e_var 1) ea_nil)) (show Good kinds 1000 1000 ∧ 0 ≤ kind ∧ kind < kinds.length from ⟨hg, k0, k1⟩)) htr.symm) ?_ sc_marks_beyond.nd)
  rw [← htr] at hrl
  refine b_cons (s_own 3 (el_lst (eh_cons e_bl (eh_cons e_bl (eh_cons e_bl eh_nil)))) ?_ sc_marks_beyond.nd)
  show B _ _ _ (Ret K (tTup tB) (fnd fun x => rimU kinds (reachTab kinds) kind kinds.length x))
  generalize reachTab kinds = tb at hrl ⊢
  refine b_cons (s_forR 4 (fun m G' => G' = [.vl (tTup (tTup tI)) kinds, .vl tI kind, .vl (tLst tB) (ix tb kind), .ow tB (fnd (rimU kinds tb kind m)), .un, .un]) _ b.range (e_lenT b.len (e_var 0)) (by omega) (Sub.refl _) rfl ?_ ?_ sc_marks_beyond.nd rfl)
  · rintro m _ hm rfl
    have hrow := hg.row _ (ix_mem (xs := kinds) (i := (m : Int)) (by omega) (by omega))
    refine b_cut (fun G' => ∃ a, G' = [.vl (tTup (tTup tI)) kinds, .vl tI kind, .vl (tLst tB) (ix tb kind), .ow tB (fnd (rimU kinds tb kind (m + 1))), .vl tI (m : Int), a]) (s_if (TW.toT (w_or (t_cv (e_var 4) (e_var 1) cv_eqI) (fun h => (w_or1 (t_val (e_ixL (e_var 2) (e_var 4) (atI_ix (by omega) (by omega)))))))) (fun h => ?_) (fun h => ?_)) ?_
    · have e0 : fnd (rimU kinds tb kind m) = fnd (fun x => rimU kinds tb kind m x || decide (x ∈ (ix kinds (m : Int)).take 0)) := fnd_same fun x _ _ => by simp
      refine b_cons (s_forT 5 (fun j G' => G' = [.vl (tTup (tTup tI)) kinds, .vl tI kind, .vl (tLst tB) (ix tb kind), .ow tB (fnd fun x => rimU kinds tb kind m x || decide (x ∈ (ix kinds (m : Int)).take j)), .vl tI (m : Int), .un]) _ (e_ixT (e_var 0) (e_var 4) (atI_ix (by omega) (by omega))) (Sub.refl _) (by rw [← e0]; rfl) ?_ ?_ sc_marks_beyond.nd rfl)
      · rintro j t _ hx rfl
        have ht := hrow.2 t (List.mem_of_getElem? hx)
        have et := take_snoc hx
        refine b_cut (fun G' => ∃ a, G' = [.vl (tTup (tTup tI)) kinds, .vl tI kind, .vl (tLst tB) (ix tb kind), .ow tB (fnd fun x => rimU kinds tb kind m x || decide (x ∈ (ix kinds (m : Int)).take (j + 1))), .vl tI (m : Int), a]) (s_if (t_cv (e_var 5) e_int cv_lt) (fun h => ?_) (fun h => ?_)) ?_
        · have h' := of_decide_eq_true h
          have ef : fnd (fun x => rimU kinds tb kind m x || decide (x ∈ (ix kinds (m : Int)).take (j + 1))) = (fnd fun x => rimU kinds tb kind m x || decide (x ∈ (ix kinds (m : Int)).take j)).set (-1 - t).toNat true := by
            rw [fnd_set ht.1 h', et]
            refine fnd_same fun x _ _ => ?_
            rw [Bool.or_assoc, ← Bool.decide_or]
            congr 1
            exact decide_eq_decide.mpr (by rw [List.mem_append, List.mem_singleton])
          rw [ef]
          refine b_cons (s_seti 3 (m := (-1 - t).toNat) rfl e_bl (e_sub (e_neg e_int) (e_var 5)) (ixNp (by omega) (by show -1 - t < ((3 : Nat) : Int); omega)) ?_)
          exact b_nil ⟨_, rfl⟩
        · have h' := of_decide_eq_false h
          have ef : fnd (fun x => rimU kinds tb kind m x || decide (x ∈ (ix kinds (m : Int)).take (j + 1))) = (fnd fun x => rimU kinds tb kind m x || decide (x ∈ (ix kinds (m : Int)).take j)) := by
            rw [et]
            refine fnd_same fun x x0 x1 => ?_
            congr 1
            exact decide_eq_decide.mpr (by rw [List.mem_append, List.mem_singleton]; exact ⟨fun h => h.elim id fun z => absurd z (by omega), .inl⟩)
          rw [ef]
          exact b_nil ⟨_, rfl⟩
        rintro _ ⟨a, rfl⟩
        exact B.weak (b_nil rfl) (.same (.same (.same (.same (.same (.un .nil))))))
      · rintro _ rfl
        rw [List.take_length]
        have ef : fnd (fun x => rimU kinds tb kind m x || decide (x ∈ ix kinds (m : Int))) = fnd (rimU kinds tb kind (m + 1)) := fnd_same fun x _ _ => by rw [rimU_succ, h, Bool.true_and]
        rw [ef]
        exact b_nil ⟨_, rfl⟩
    · have ef : fnd (rimU kinds tb kind m) = fnd (rimU kinds tb kind (m + 1)) := fnd_same fun x _ _ => by rw [rimU_succ, h, Bool.false_and, Bool.or_false]
      rw [ef]
      exact b_nil ⟨_, rfl⟩
    rintro _ ⟨a, rfl⟩
    exact B.weak (b_nil rfl) (.same (.same (.same (.same (.un (.un .nil))))))
  · rintro _ rfl
    rw [Int.toNat_natCast]
    exact b_cons (s_ret (e_read 3 rfl (imm_T imm_B) (e_tupL b.tuple (e_var 3))) (fun M v r => r))
end

def nmM (t : Int) : Str := ix (["r", "h", "c"] : List Str) (-1 - t)
def mkAdd (a : List Str) (t : Int) : List Str := if (decide (t < 0) && !decide (nmM t ∈ a)) = true then a ++ [nmM t] else a
def marksU (kinds : List (List Int)) (tb : List (List Bool)) (k : Int) (m : Nat) : List Str := (List.range m).foldl (fun a (j : Nat) => if (decide ((j : Int) = k) || ix (ix tb k) (j : Int)) = true then (ix kinds (j : Int)).foldl mkAdd a else a) []
theorem mkAdd_r {a : List Str} {t : Int} (h0 : -3 ≤ t) : (("r" : Str) ∈ mkAdd a t) ↔ (("r" : Str) ∈ a ∨ t = -1) := by
  unfold mkAdd
  have e1 : nmM (-1) = ("r" : Str) := rfl
  have e2 : nmM (-2) = ("h" : Str) := rfl
  have e3 : nmM (-3) = ("c" : Str) := rfl
  have n2 : (("r" : Str)) ≠ ("h" : Str) := by decide
  have n3 : (("r" : Str)) ≠ ("c" : Str) := by decide
  by_cases hn : t < 0
  · have : t = -1 ∨ t = -2 ∨ t = -3 := by omega
    rcases this with rfl | rfl | rfl
    · rw [e1]
      by_cases q : (("r" : Str)) ∈ a
      · simp [q]
      · simp [q]
    · rw [e2]
      split
      · rw [List.mem_append, List.mem_singleton]
        exact ⟨fun h => h.elim .inl fun z => absurd z n2, fun h => h.elim .inl fun z => by omega⟩
      · exact ⟨.inl, fun h => h.elim id fun z => by omega⟩
    · rw [e3]
      split
      · rw [List.mem_append, List.mem_singleton]
        exact ⟨fun h => h.elim .inl fun z => absurd z n3, fun h => h.elim .inl fun z => by omega⟩
      · exact ⟨.inl, fun h => h.elim id fun z => by omega⟩
  · rw [if_neg (by simp [hn])]
    exact ⟨.inl, fun h => h.elim id fun z => by omega⟩
theorem mkAdds_r : ∀ (ts : List Int) (a : List Str), (∀ t ∈ ts, -3 ≤ t) → ((("r" : Str) ∈ ts.foldl mkAdd a) ↔ (("r" : Str) ∈ a ∨ (-1 : Int) ∈ ts))
  | [], a, _ => by simp
  | t :: ts, a, h => by
    rw [List.foldl_cons, mkAdds_r ts _ fun u hu => h u (List.mem_cons_of_mem _ hu), mkAdd_r (h t (List.mem_cons_self ..)), List.mem_cons, or_assoc]
    constructor
    · rintro (q | q | q)
      · exact .inl q
      · exact .inr (.inl q.symm)
      · exact .inr (.inr q)
    · rintro (q | q | q)
      · exact .inl q
      · exact .inr (.inl q.symm)
      · exact .inr (.inr q)
theorem mkAdd_len (a : List Str) (t : Int) : (mkAdd a t).length ≤ a.length + 1 := by
  unfold mkAdd; split
  · rw [List.length_append]; simp
  · omega
theorem mkAdds_len : ∀ (ts : List Int) (a : List Str), (ts.foldl mkAdd a).length ≤ a.length + ts.length
  | [], a => by simp
  | t :: ts, a => by
    rw [List.foldl_cons]
    have := mkAdds_len ts (mkAdd a t)
    have := mkAdd_len a t
    rw [List.length_cons]; omega
theorem marksU_succ (kinds : List (List Int)) (tb : List (List Bool)) (k : Int) (m : Nat) : marksU kinds tb k (m + 1) = if (decide ((m : Int) = k) || ix (ix tb k) (m : Int)) = true then (ix kinds (m : Int)).foldl mkAdd (marksU kinds tb k m) else marksU kinds tb k m := by
  unfold marksU; rw [List.range_succ, List.foldl_append]; rfl
theorem marksU_len {kinds : List (List Int)} (hg : Good kinds 100 100) (tb : List (List Bool)) (k : Int) : ∀ m : Nat, m ≤ kinds.length → (marksU kinds tb k m).length ≤ 100 * m
  | 0, _ => by unfold marksU; simp
  | m + 1, h => by
    have ih := marksU_len hg tb k m (by omega)
    have hr := (hg.row _ (ix_mem (xs := kinds) (i := (m : Int)) (by omega) (by omega))).1
    rw [marksU_succ]
    split
    · have := mkAdds_len (ix kinds (m : Int)) (marksU kinds tb k m); omega
    · omega
theorem marksU_r {kinds : List (List Int)} {n e : Int} (hg : Good kinds n e) (tb : List (List Bool)) (k : Int) : ∀ m : Nat, m ≤ kinds.length → decide (("r" : Str) ∈ marksU kinds tb k m) = rimU kinds tb k m (-1)
  | 0, _ => by unfold marksU rimU; simp
  | m + 1, h => by
    have ih := marksU_r hg tb k m (by omega)
    have hr := (hg.row _ (ix_mem (xs := kinds) (i := (m : Int)) (by omega) (by omega))).2
    rw [marksU_succ, rimU_succ, ← ih]
    split
    · rename_i q
      rw [q, Bool.true_and, ← Bool.decide_or]
      exact decide_eq_decide.mpr (mkAdds_r _ _ fun t ht => (hr t ht).1)
    · rename_i q
      rw [Bool.eq_false_iff.mpr q, Bool.false_and, Bool.or_false]
def sp_law_marks (K : Fg) : Sp := spG K (fun i : List (List Int) × List (List Bool) × Int => [.vl (tTup (tTup tI)) i.1, .vl (tLst (tLst tB)) i.2.1, .vl tI i.2.2]) (fun i => (Good i.1 100 100 ∧ Wb i.1 i.2.1) ∧ 0 ≤ i.2.2 ∧ i.2.2 < i.1.length) (tLst tS) (fun i => marksU i.1 i.2.1 i.2.2 i.1.length)
section
variable {P : Program} {w : World} {K : Fg} {mg : Str → Option Value} {base : Heap}
theorem sc_law_marks : FnScope ["kinds", "reach", "k", "found", "m", "t"] ["kinds", "reach", "k"] (defScope s_law_marks) := ⟨rfl, rfl, rfl, by decide +kernel, rfl, by decide +kernel, by decide +kernel⟩
theorem ok_law_marks {f : Addr} {fd : FuncData} (F : Fun K "_law_marks" "_law_marks" s_law_marks f fd) (b : Bi mg) : FnOk P w K mg base CX0 1 f fd ["kinds", "reach", "k"] (sp_law_marks K) := by
  refine fn_ok F sc_law_marks 3 rfl (fun _ => rfl) (fun cdv A outer s H E hr ⟨kinds, tb, k⟩ hp => ?_)
  dsimp only at hp ⊢
  obtain ⟨⟨hg, W⟩, k0, k1⟩ := hp
  have hlen := hg.len
  have htl := W.len
  have hrk := W.T.sq.row _ (ix_mem (xs := tb) (i := k) k0 (by omega))
  refine b_cons (s_own 3 (el_lst (s := tS) eh_nil) ?_ sc_law_marks.nd)
  refine b_cons (s_forR 4 (fun m G' => G' = [.vl (tTup (tTup tI)) kinds, .vl (tLst (tLst tB)) tb, .vl tI k, .ow tS (marksU kinds tb k m), .un, .un]) _ b.range (e_lenT b.len (e_var 0)) (by omega) (Sub.refl _) rfl ?_ ?_ sc_law_marks.nd rfl)
  · rintro m _ hm rfl
    have hrow := hg.row _ (ix_mem (xs := kinds) (i := (m : Int)) (by omega) (by omega))
    have hml := marksU_len hg tb k m (by omega)
    refine b_cut (fun G' => ∃ a, G' = [.vl (tTup (tTup tI)) kinds, .vl (tLst (tLst tB)) tb, .vl tI k, .ow tS (marksU kinds tb k (m + 1)), .vl tI (m : Int), a]) (s_if (TW.toT (w_or (t_cv (e_var 4) (e_var 2) cv_eqI) (fun h => (w_or1 (t_val (e_ixL (e_ixL (e_var 1) (e_var 2) (atI_ix (by omega) (by omega))) (e_var 4) (atI_ix (by omega) (by omega)))))))) (fun h => ?_) (fun h => ?_)) ?_
    · rw [marksU_succ, if_pos h]
      generalize marksU kinds tb k m = acc at hml ⊢
      refine b_cons (s_forT 5 (fun j G' => G' = [.vl (tTup (tTup tI)) kinds, .vl (tLst (tLst tB)) tb, .vl tI k, .ow tS (((ix kinds (m : Int)).take j).foldl mkAdd acc), .vl tI (m : Int), .un]) _ (e_ixT (e_var 0) (e_var 4) (atI_ix (by omega) (by omega))) (Sub.refl _) rfl ?_ ?_ sc_law_marks.nd rfl)
      · rintro j t _ hx rfl
        have ht := hrow.2 t (List.mem_of_getElem? hx)
        have hal := mkAdds_len ((ix kinds (m : Int)).take j) acc
        have htk : ((ix kinds (m : Int)).take j).length ≤ (ix kinds (m : Int)).length := by rw [List.length_take]; omega
        rw [take_snoc hx, List.foldl_append]
        generalize ((ix kinds (m : Int)).take j).foldl mkAdd acc = ac2 at hal ⊢
        show B _ _ _ _
        refine b_cut (fun G' => ∃ a, G' = [.vl (tTup (tTup tI)) kinds, .vl (tLst (tLst tB)) tb, .vl tI k, .ow tS (mkAdd ac2 t), .vl tI (m : Int), a]) (s_if (TW.toT (w_and (t_cv (e_var 5) e_int cv_lt) (fun h => w_and1 (t_read 3 rfl (t_cv (e_ixL (xs := (["r", "h", "c"] : List Str)) (EL.toE (el_lst (eh_cons e_str (eh_cons e_str (eh_cons e_str eh_nil))))) (e_sub (e_neg e_int) (e_var 5)) (atI_ix (by simp only [List.length_cons, List.length_nil]; have := of_decide_eq_true h; omega) (by simp only [List.length_cons, List.length_nil]; have := of_decide_eq_true h; omega))) (e_var 3) cv_ninSL))))) (fun h => ?_) (fun h => ?_)) ?_
        · have h1 := of_decide_eq_true ((Bool.and_eq_true _ _).mp h).1
          refine b_cons (s_app 3 rfl (e_ixL (xs := (["r", "h", "c"] : List Str)) (EL.toE (el_lst (eh_cons e_str (eh_cons e_str (eh_cons e_str eh_nil))))) (e_sub (e_neg e_int) (e_var 5)) (atI_ix (by simp only [List.length_cons, List.length_nil]; omega) (by simp only [List.length_cons, List.length_nil]; omega))) (by omega) ?_)
          have e : mkAdd ac2 t = ac2 ++ [nmM t] := by unfold mkAdd; exact if_pos h
          rw [e]
          exact b_nil ⟨_, rfl⟩
        · have e : mkAdd ac2 t = ac2 := by unfold mkAdd; exact if_neg (nt h)
          rw [e]
          exact b_nil ⟨_, rfl⟩
        rintro _ ⟨a, rfl⟩
        exact B.weak (b_nil rfl) (.same (.same (.same (.same (.same (.un .nil))))))
      · rintro _ rfl
        rw [List.take_length]
        exact b_nil ⟨_, rfl⟩
    · rw [marksU_succ, if_neg (nt h)]
      exact b_nil ⟨_, rfl⟩
    rintro _ ⟨a, rfl⟩
    exact B.weak (b_nil rfl) (.same (.same (.same (.same (.un (.un .nil))))))
  · rintro _ rfl
    rw [Int.toNat_natCast]
    refine b_freeze 3 rfl ?_
    exact b_cons (s_ret (e_var 3) (fun M v r => r))
end

def aliveL (kinds : List (List Int)) (tb : List (List Bool)) (m : Nat) : List Bool := (List.range m).map fun k : Nat => aliveM kinds tb (k : Int)
def aliveU (kinds : List (List Int)) (tb : List (List Bool)) (k : Int) (m : Nat) : Bool := rimM kinds tb (-1) k || (List.range m).any fun j : Nat => ix (ix tb (j : Int)) (j : Int) && (decide ((j : Int) = k) || ix (ix tb k) (j : Int))
theorem aliveU_all {kinds : List (List Int)} {tb : List (List Bool)} (W : Wb kinds tb) (k : Int) : aliveU kinds tb k kinds.length = aliveM kinds tb k := by
  unfold aliveU aliveM
  rw [Bool.or_comm]
  congr 1
  unfold endM
  rw [W.len, Bool.eq_iff_iff, List.any_eq_true, List.any_eq_true]
  constructor
  · rintro ⟨j, hj, h⟩
    obtain ⟨h1, h2⟩ := (Bool.and_eq_true _ _).mp h
    refine ⟨j, hj, ?_⟩
    rcases (Bool.or_eq_true _ _).mp h2 with z | z
    · have z := of_decide_eq_true z
      rw [z] at h1 ⊢
      rw [h1]; rfl
    · rw [z, h1]; rfl
  · rintro ⟨j, hj, h⟩
    obtain ⟨h1, h2⟩ := (Bool.and_eq_true _ _).mp h
    exact ⟨j, hj, by rw [h1, h2]; simp⟩
def sp_law_live (K : Fg) : Sp := spG K (fun i : List (List Int) × List (List Bool) => [.vl (tTup (tTup tI)) i.1, .vl (tLst (tLst tB)) i.2]) (fun i => Good i.1 100 100 ∧ Wb i.1 i.2) (tLst tB) (fun i => aliveL i.1 i.2 i.1.length)
section
variable {P : Program} {w : World} {K : Fg} {mg : Str → Option Value} {base : Heap}
theorem sc_law_live : FnScope ["kinds", "reach", "live", "k", "alive", "j"] ["kinds", "reach"] (defScope s_law_live) := ⟨rfl, rfl, rfl, by decide +kernel, rfl, by decide +kernel, by decide +kernel⟩
theorem ok_law_live {f : Addr} {fd : FuncData} (F : Fun K "_law_live" "_law_live" s_law_live f fd) (b : Bi mg) (C_law_marks : Fn P w K mg base CX0 1 "_law_marks" ["kinds", "reach", "k"] (sp_law_marks K)) : FnOk P w K mg base CX0 2 f fd ["kinds", "reach"] (sp_law_live K) := by
  refine fn_ok F sc_law_live 4 rfl (fun _ => rfl) (fun cdv A outer s H E hr ⟨kinds, tb⟩ hp => ?_)
  dsimp only at hp ⊢
  obtain ⟨hg, W⟩ := hp
  have hlen := hg.len
  have htl := W.len
  have hrw := fun (k : Int) (h0 : 0 ≤ k) (h1 : k < tb.length) => W.T.sq.row _ (ix_mem (xs := tb) (i := k) h0 h1)
  refine b_cons (s_own 2 (el_lst (s := tB) eh_nil) ?_ sc_law_live.nd)
  refine b_cons (s_forR 3 (fun m G' => G' = [.vl (tTup (tTup tI)) kinds, .vl (tLst (tLst tB)) tb, .ow tB (aliveL kinds tb m), .un, .un, .un]) _ b.range (e_lenT b.len (e_var 0)) (by omega) (Sub.refl _) rfl ?_ ?_ sc_law_live.nd rfl)
  · rintro k _ hk rfl
    have hm := marksU_r hg tb (k : Int) kinds.length (Nat.le_refl _)
    have e0 : decide (("r" : Str) ∈ marksU kinds tb (k : Int) kinds.length) = aliveU kinds tb (k : Int) 0 := by
      rw [hm]; unfold aliveU rimM rimU; simp
    refine b_cons (s_set 4 (TL.E.is (e_cv e_str (e_call C_law_marks (hr.mono (by decide)) (kinds, tb, (k : Int)) (ea_cons (e_var 0) (ea_cons (e_var 1) (ea_cons (e_var 3) ea_nil))) (show (Good kinds 100 100 ∧ Wb kinds tb) ∧ 0 ≤ (k : Int) ∧ (k : Int) < kinds.length from ⟨⟨hg, W⟩, by omega, by omega⟩)) cv_inSL) e0) ?_ sc_law_live.nd)
    refine b_cons (s_forR 5 (fun j G' => G' = [.vl (tTup (tTup tI)) kinds, .vl (tLst (tLst tB)) tb, .ow tB (aliveL kinds tb k), .vl tI (k : Int), .vl tB (aliveU kinds tb (k : Int) j), .un]) _ b.range (e_lenT b.len (e_var 0)) (by omega) (Sub.refl _) rfl ?_ ?_ sc_law_live.nd rfl)
    · rintro j _ hj rfl
      have r1 := hrw (j : Int) (by omega) (by omega)
      have r2 := hrw (k : Int) (by omega) (by omega)
      refine b_cons (s_ifSet 4 rfl (TW.toT (w_and (t_val (e_ixL (e_ixL (e_var 1) (e_var 5) (atI_ix (by omega) (by omega))) (e_var 5) (atI_ix (by omega) (by omega)))) (fun h => w_and1 (TW.toT (w_or (t_cv (e_var 5) (e_var 3) cv_eqI) (fun h => w_or1 (t_val (e_ixL (e_ixL (e_var 1) (e_var 3) (atI_ix (by omega) (by omega))) (e_var 5) (atI_ix (by omega) (by omega)))))))))) (fun h => e_bl) ?_ sc_law_live.nd)
      have e1 : (if (ix (ix tb (j : Int)) (j : Int) && (decide ((j : Int) = (k : Int)) || ix (ix tb (k : Int)) (j : Int))) = true then true else aliveU kinds tb (k : Int) j) = aliveU kinds tb (k : Int) (j + 1) := by
        unfold aliveU
        rw [List.range_succ, List.any_append, List.any_cons, List.any_nil, Bool.or_false]
        split
        · rename_i q; rw [q]; simp
        · rename_i q; rw [Bool.eq_false_iff.mpr q]; simp
      rw [e1]
      exact B.weak (b_nil rfl) (.same (.same (.same (.same (.same (.un .nil))))))
    · rintro _ rfl
      rw [Int.toNat_natCast, aliveU_all W]
      refine b_cons (s_app 2 rfl (e_var 4) (by unfold aliveL; simp; omega) ?_)
      refine B.weak (b_nil rfl) ?_
      unfold aliveL
      rw [List.range_succ, List.map_append]
      exact .same (.same (.same (.un (.un (.un .nil)))))
  · rintro _ rfl
    rw [Int.toNat_natCast]
    refine b_freeze 2 rfl ?_
    exact b_cons (s_ret (e_var 2) (fun M v r => r))
end

def stepsD (kinds : List (List Int)) (w : List Int) (t : Int) : List (List Int × Int) := (List.range (ix kinds t).length).map fun m : Nat => (w ++ [((ix kinds t).length : Int) - 1 - (m : Int)], ix (ix kinds t) (((ix kinds t).length : Int) - 1 - (m : Int)))
theorem range_rev (n : Nat) : (List.range n).reverse = (List.range n).map fun m => n - 1 - m := by
  apply List.ext_getElem
  · simp
  · intro i h1 h2
    simp
theorem stepsD_eq (kinds : List (List Int)) (w : List Int) (t : Int) : stepsD kinds w t = (stepsU kinds w t).reverse := by
  unfold stepsD stepsU
  rw [← List.map_reverse, range_rev, List.map_map]
  apply List.map_congr_left
  intro m hm
  have hm := List.mem_range.mp hm
  show _ = (w ++ [(((ix kinds t).length - 1 - m : Nat) : Int)], ix (ix kinds t) (((ix kinds t).length - 1 - m : Nat) : Int))
  rw [show (((ix kinds t).length - 1 - m : Nat) : Int) = ((ix kinds t).length : Int) - 1 - (m : Int) by omega]
def spone_step_on (K : Fg) : Sp := spN K (fun i : List (List Int) × List Int × Int => [.vl (tTup (tTup tI)) i.1, .vl (tTup tI) i.2.1, .vl tI i.2.2]) (fun i => Good i.1 1000 1000 ∧ i.2.1.length ≤ 10000 ∧ 0 ≤ i.2.2 ∧ i.2.2 < i.1.length) (tP2 (tTup tI) tI) (fun i y => y = stepsD i.1 i.2.1 i.2.2)
def spone_step_onG (K : Fg) : Sp := spG K (fun i : List (List Int) × List Int × Int => [.vl (tTup (tTup tI)) i.1, .vl (tTup tI) i.2.1, .vl tI i.2.2]) (fun i => Good i.1 1000 1000 ∧ i.2.1.length ≤ 10000 ∧ 0 ≤ i.2.2 ∧ i.2.2 < i.1.length) (tLst (tP2 (tTup tI) tI)) (fun i => stepsD i.1 i.2.1 i.2.2)
section
variable {P : Program} {w : World} {K : Fg} {mg : Str → Option Value} {base : Heap}
theorem sc_one_step_on : FnScope ["kinds", "way", "kind", "step"] ["kinds", "way", "kind"] (defScope sone_step_on) := ⟨rfl, rfl, rfl, by decide +kernel, rfl, by decide +kernel, by decide +kernel⟩
theorem okone_step_on {f : Addr} {fd : FuncData} (F : Fun K "one_step_on" "one_step_on" sone_step_on f fd) (b : Bi mg) : FnOk P w K mg base CX0 1 f fd ["kinds", "way", "kind"] (spone_step_on K) := by
  refine fn_okN F sc_one_step_on 1 rfl (fun _ => rfl) (fun cdv A outer s H E hr ⟨kinds, way, kind⟩ hp => ?_)
  dsimp only at hp ⊢
  obtain ⟨hg, hw, k0, k1⟩ := hp
  have hlen := hg.len
  have hrow := hg.row _ (ix_mem (xs := kinds) (i := kind) k0 k1)
  refine bn_ret (EL.toX (el_lc (lc_RR (f := fun m : Nat => (way ++ [((ix kinds kind).length : Int) - 1 - (m : Int)], ix (ix kinds kind) (((ix kinds kind).length : Int) - 1 - (m : Int)))) (own := [("step", 3)]) b.reversed b.range (e_lenT b.len (e_ixT (e_var 0) (e_var 2) (atI_ix (by omega) (by omega)))) (by omega) 3 (fun s0 H C cl fp m hm => e_p2 (e_catA (e_var 1) (e_tup (eh_cons (e_var 3) eh_nil)) (by simp only [List.length_cons, List.length_nil]; omega)) (e_ixT (e_ixT (e_var 0) (e_var 2) (atI_ix (by omega) (by omega))) (e_var 3) (atI_ix (by omega) (by omega)))) (blkOk_by (N := ["kinds", "way", "kind", "step"]) (sc := defScope sone_step_on) (by decide +kernel)) (fun _ _ _ _ _ => pg_name sc_one_step_on.nd rfl (by first | exact Or.inl rfl | exact Or.inr rfl))) rfl sc_one_step_on.nd) ?_)
  unfold stepsD
  rw [Int.toNat_natCast]
end

noncomputable def reachedTab (kinds : List (List Int)) : List (List Int) := (List.range kinds.length).map fun k : Nat => reachedM kinds (k : Int)
noncomputable def spreach_table (K : Fg) : Sp := spG K (fun i : List (List Int) => [.vl (tTup (tTup tI)) i]) (fun i => Good i 1000 1000) (tTup (tTup tI)) (fun i => reachedTab i)
section
variable {P : Program} {w : World} {K : Fg} {mg : Str → Option Value} {base : Heap}
theorem sc_reach_table : FnScope ["kinds", "kind"] ["kinds"] (defScope sreach_table) := ⟨rfl, rfl, rfl, by decide +kernel, rfl, by decide +kernel, by decide +kernel⟩
theorem okreach_table {f : Addr} {fd : FuncData} (F : Fun K "reach_table" "reach_table" sreach_table f fd) (b : Bi mg) (Creached_from : Fn P w K mg base CX0 2 "reached_from" ["kinds", "kind"] (spreached_from K)) : FnOk P w K mg base CX0 3 f fd ["kinds"] (spreach_table K) := by
  refine fn_ok F sc_reach_table 1 rfl (fun _ => rfl) (fun cdv A outer s H E hr kinds hg => ?_)
  have hlen := hg.len
  refine b_cons (s_ret (e_tupL b.tuple (EL.toE (el_lc (lc_R (f := fun k : Nat => reachedM kinds (k : Int)) (own := [("kind", 1)]) b.range (e_lenT b.len (e_var 0)) (by omega) 1 (fun s0 H C cl fp m hx => (e_call Creached_from (hr.mono (by decide)) (kinds, (m : Int)) (ea_cons (e_var 0) (ea_cons (e_var 1) ea_nil)) (show Good kinds 1000 1000 ∧ 0 ≤ (m : Int) ∧ (m : Int) < kinds.length from ⟨hg, by omega, by omega⟩))) (blkOk_by (N := ["kinds", "kind"]) (sc := defScope sreach_table) (by decide +kernel)) (fun _ _ _ _ _ => pg_name sc_reach_table.nd rfl (by first | exact Or.inl rfl | exact Or.inr rfl))) rfl sc_reach_table.nd))) (fun M v r => ret_is r ?_))
  rw [Int.toNat_natCast]; rfl
end

noncomputable def endlessM (kinds : List (List Int)) : List Bool := (List.range kinds.length).map fun k : Nat => endM (reachTab kinds) (k : Int)
noncomputable def spendless_flags (K : Fg) : Sp := spG K (fun i : List (List Int) => [.vl (tTup (tTup tI)) i]) (fun i => Good i 1000 1000) (tTup tB) (fun i => endlessM i)
section
variable {P : Program} {w : World} {K : Fg} {mg : Str → Option Value} {base : Heap}
theorem sc_endless_flags : FnScope ["kinds", "table", "in_knot", "kind", "other"] ["kinds"] (defScope sendless_flags) := ⟨rfl, rfl, rfl, by decide +kernel, rfl, by decide +kernel, by decide +kernel⟩
theorem okendless_flags {f : Addr} {fd : FuncData} (F : Fun K "endless_flags" "endless_flags" sendless_flags f fd) (b : Bi mg) (Creach_table : Fn P w K mg base CX0 3 "reach_table" ["kinds"] (spreach_table K)) : FnOk P w K mg base CX0 4 f fd ["kinds"] (spendless_flags K) := by
  refine fn_ok F sc_endless_flags 4 rfl (fun _ => rfl) (fun cdv A outer s H E hr kinds hg => ?_)
  have hlen := hg.len
  have hl : (reachedTab kinds).length = kinds.length := by unfold reachedTab; simp
  have hix : ∀ k : Nat, k < kinds.length → ix (reachedTab kinds) (k : Int) = reachedM kinds (k : Int) := fun k hk => by unfold reachedTab; rw [ix_range hk]
  refine b_cons (s_set 1 (e_call Creach_table (hr.mono (by decide)) kinds (ea_cons (e_var 0) ea_nil) hg) ?_ sc_endless_flags.nd)
  refine b_cons (s_set 2 (EL.toE (el_lc (lc_R (f := fun k : Nat => decide ((k : Int) ∈ ix (reachedTab kinds) (k : Int))) (own := [("kind", 3)]) b.range (e_lenT b.len (e_var 0)) (by omega) 3 (fun s0 H C cl fp m hx => (e_cv (e_var 3) (e_ixT (e_var 1) (e_var 3) (atI_ix (by omega) (by omega))) cv_inT)) (blkOk_by (N := ["kinds", "table", "in_knot", "kind", "other"]) (sc := defScope sendless_flags) (by decide +kernel)) (fun _ _ _ _ _ => pg_name sc_endless_flags.nd rfl (by first | exact Or.inl rfl | exact Or.inr rfl))) rfl sc_endless_flags.nd)) ?_ sc_endless_flags.nd)
  rw [Int.toNat_natCast]
  have hkl : ((List.range kinds.length).map fun k : Nat => decide ((k : Int) ∈ ix (reachedTab kinds) (k : Int))).length = kinds.length := by simp
  have hki : ∀ o : Int, 0 ≤ o → o < kinds.length → ix ((List.range kinds.length).map fun k : Nat => decide ((k : Int) ∈ ix (reachedTab kinds) (k : Int))) o = ix (ix (reachTab kinds) o) o := fun o o0 o1 => by
    obtain ⟨o, rfl⟩ : ∃ j : Nat, o = (j : Int) := ⟨o.toNat, by omega⟩
    rw [ix_range (by omega), hix o (by omega), Bool.eq_iff_iff, decide_eq_true_eq, mem_reached]
    exact ⟨fun h => h.2, fun h => ⟨⟨o0, o1⟩, h⟩⟩
  generalize (List.range kinds.length).map (fun k : Nat => decide ((k : Int) ∈ ix (reachedTab kinds) (k : Int))) = kn at hkl hki ⊢
  refine b_cons (s_ret (e_tupL b.tuple (EL.toE (el_lc (lc_R (f := fun k : Nat => decide (true ∈ (ix (reachedTab kinds) (k : Int)).map fun o => ix kn o)) (own := [("kind", 3)]) b.range (e_lenT b.len (e_var 0)) (by omega) 3 (fun s0 H C cl fp m hx => (e_cv e_bl (EL.toE (el_lc (lc_T (f := fun o => ix kn o) (own := [("other", 4)]) (e_ixT (e_var 1) (e_var 3) (atI_ix (by omega) (by omega))) 4 (fun s0 H C cl fp j x hx2 => (e_ixL (e_var 2) (e_var 4) (by
      have hx3 := List.mem_of_getElem? hx2
      rw [hix m (by omega), mem_reached] at hx3
      exact atI_ix (by omega) (by omega)))) (blkIn (N := ["kinds", "table", "in_knot", "kind", "other"]) (by decide +kernel)) (by rw [hix m (by omega)]; have := reached_len kinds (m : Int); omega) (fun _ _ _ _ _ => pg_name sc_endless_flags.nd rfl (by first | exact Or.inl rfl | exact Or.inr rfl))) rfl sc_endless_flags.nd)) cv_inBL)) (blkOk_by (N := ["kinds", "table", "in_knot", "kind", "other"]) (sc := defScope sendless_flags) (by decide +kernel)) (fun _ _ _ _ _ => pg_name sc_endless_flags.nd rfl (by first | exact Or.inl rfl | exact Or.inr rfl))) rfl sc_endless_flags.nd))) (fun M v r => ret_is r ?_))
  rw [Int.toNat_natCast]
  unfold endlessM
  apply List.map_congr_left
  intro k hk
  have hk := List.mem_range.mp hk
  have htl := (reachTab_sqr hg (by omega)).2
  rw [hix k hk, Bool.eq_iff_iff, decide_eq_true_eq]
  unfold endM
  rw [List.any_eq_true, htl]
  constructor
  · rintro ⟨j, hj, h⟩
    have hj := List.mem_range.mp hj
    obtain ⟨h1, h2⟩ := (Bool.and_eq_true _ _).mp h
    exact List.mem_map.mpr ⟨(j : Int), mem_reached.mpr ⟨by omega, h1⟩, by rw [hki _ (by omega) (by omega)]; exact h2⟩
  · intro h
    obtain ⟨o, ho, h2⟩ := List.mem_map.mp h
    obtain ⟨ob, h1⟩ := mem_reached.mp ho
    rw [hki o ob.1 ob.2] at h2
    refine ⟨o.toNat, List.mem_range.mpr (by omega), ?_⟩
    rw [show ((o.toNat : Nat) : Int) = o by omega, h1, h2]; rfl
end

noncomputable def liveM (kinds : List (List Int)) : List Bool := (List.range kinds.length).map fun k : Nat => aliveM kinds (reachTab kinds) (k : Int)
noncomputable def splive_flags (K : Fg) : Sp := spG K (fun i : List (List Int) => [.vl (tTup (tTup tI)) i]) (fun i => Good i 1000 1000) (tTup tB) (fun i => liveM i)
section
variable {P : Program} {w : World} {K : Fg} {mg : Str → Option Value} {base : Heap}
theorem sc_live_flags : FnScope ["kinds", "endless", "kind"] ["kinds"] (defScope slive_flags) := ⟨rfl, rfl, rfl, by decide +kernel, rfl, by decide +kernel, by decide +kernel⟩
theorem oklive_flags {f : Addr} {fd : FuncData} (F : Fun K "live_flags" "live_flags" slive_flags f fd) (b : Bi mg) (Cendless_flags : Fn P w K mg base CX0 4 "endless_flags" ["kinds"] (spendless_flags K)) (Cmarks_beyond : Fn P w K mg base CX0 2 "marks_beyond" ["kinds", "kind"] (spmarks_beyond K)) : FnOk P w K mg base CX0 5 f fd ["kinds"] (splive_flags K) := by
  refine fn_ok F sc_live_flags 2 rfl (fun _ => rfl) (fun cdv A outer s H E hr kinds hg => ?_)
  have hlen := hg.len
  have hl : (endlessM kinds).length = kinds.length := by unfold endlessM; simp
  refine b_cons (s_set 1 (e_call Cendless_flags (hr.mono (by decide)) kinds (ea_cons (e_var 0) ea_nil) hg) ?_ sc_live_flags.nd)
  refine b_cons (s_ret (e_tupL b.tuple (EL.toE (el_lc (lc_R (f := fun k : Nat => ix (endlessM kinds) (k : Int) || ix (fnd fun x => rimM kinds (reachTab kinds) x (k : Int)) 0) (own := [("kind", 2)]) b.range (e_lenT b.len (e_var 0)) (by omega) 2 (fun s0 H C cl fp m hx => (e_or (e_ixT (e_var 1) (e_var 2) (atI_ix (by omega) (by omega))) (fun h => (e_one (e_ixT (e_call Cmarks_beyond (hr.mono (by decide)) (kinds, (m : Int)) (ea_cons (e_var 0) (ea_cons (e_var 2) ea_nil)) (show Good kinds 1000 1000 ∧ 0 ≤ (m : Int) ∧ (m : Int) < kinds.length from ⟨hg, by omega, by omega⟩)) e_int (atI_ix (by omega) (by show (0 : Int) < ((3 : Nat) : Int); omega))))))) (blkOk_by (N := ["kinds", "endless", "kind"]) (sc := defScope slive_flags) (by decide +kernel)) (fun _ _ _ _ _ => pg_name sc_live_flags.nd rfl (by first | exact Or.inl rfl | exact Or.inr rfl))) rfl sc_live_flags.nd))) (fun M v r => ret_is r ?_))
  rw [Int.toNat_natCast]
  unfold liveM
  apply List.map_congr_left
  intro k hk
  unfold endlessM aliveM
  rw [ix_range (List.mem_range.mp hk)]
  rfl
end

theorem klH_all (tb : List (List Bool)) : ∀ (n : Nat) (ws : List Int), ws.length ≤ n → ∀ h ∈ ws, h ∈ klH tb n ws
  | 0, ws, hl, h, hh => by
    have := List.length_pos_of_mem hh
    omega
  | n + 1, ws, hl, h, hh => by
    unfold klH
    have hp := List.length_pos_of_mem hh
    rw [if_neg (by cases ws with | nil => cases hh | cons x xs => simp)]
    by_cases z : h = nextHM tb ws
    · rw [z]; exact List.mem_cons_self ..
    · refine List.mem_cons_of_mem _ (klH_all tb n _ ?_ h (List.mem_filter.mpr ⟨hh, by simpa using z⟩))
      have hfl : (ws.filter fun h => !decide (h = nextHM tb ws)).length < ws.length := List.length_filter_lt_length_iff_exists.mpr ⟨nextHM tb ws, nextHM_mem hp, by simp⟩
      omega
theorem knot_iff {kinds : List (List Int)} {n e : Int} (h : Good kinds n e) (hn : n ≤ 1000) {k : Int} (h0 : 0 ≤ k) (h1 : k < kinds.length) : (∃ j : Nat, j < (knotsM kinds).length ∧ k ∈ ix (knotsM kinds) (j : Int)) ↔ knotted (reachTab kinds) k = true := by
  have T := reach_trn h hn
  obtain ⟨hs, hl⟩ := reachTab_sqr h hn
  have hd := heads_hd (tb := reachTab kinds)
  have ek : knotsM kinds = (klH (reachTab kinds) (headsM (reachTab kinds)).length (headsM (reachTab kinds))).map (aroundM (reachTab kinds)) := klM_klH _ _ _
  have sb := klH_sub (reachTab kinds) (headsM (reachTab kinds)).length (headsM (reachTab kinds))
  have al := klH_all (reachTab kinds) (headsM (reachTab kinds)).length (headsM (reachTab kinds)) (Nat.le_refl _)
  have hb : 0 ≤ k ∧ k < (reachTab kinds).length := ⟨h0, by rw [hl]; exact h1⟩
  constructor
  · rintro ⟨j, hj, hk⟩
    have hm := ix_mem (xs := knotsM kinds) (i := (j : Int)) (by omega) (by omega)
    rw [ek] at hm hk
    obtain ⟨a, ha, e⟩ := List.mem_map.mp hm
    rw [← e] at hk
    obtain ⟨o, ho, rfl, r1, r2⟩ := mem_around.mp hk
    exact T.tr (o : Int) a (o : Int) hb (hd a (sb a ha)).b hb r2 r1
  · intro hk
    have hself : R (reachTab kinds) k k := hk
    obtain ⟨k, rfl⟩ : ∃ q : Nat, k = (q : Int) := ⟨k.toNat, by omega⟩
    have hin := around_self (tb := reachTab kinds) (k := k) (by omega) hself
    have hp := List.length_pos_of_mem hin
    have hh := ix_mem (xs := aroundM (reachTab kinds) (k : Int)) (i := 0) (by omega) (by omega)
    generalize eh : ix (aroundM (reachTab kinds) (k : Int)) 0 = a at hh
    obtain ⟨o, ho, rfl, r1, r2⟩ := mem_around.mp hh
    have hob : 0 ≤ (o : Int) ∧ (o : Int) < (reachTab kinds).length := ⟨by omega, by omega⟩
    have hoo : R (reachTab kinds) (o : Int) (o : Int) := T.tr (o : Int) (k : Int) (o : Int) hob hb hob r2 r1
    have ea := around_eq T hob hb r2 r1
    have hmem : (o : Int) ∈ headsM (reachTab kinds) := by
      unfold headsM
      refine List.mem_map.mpr ⟨o, List.mem_filter.mpr ⟨List.mem_range.mpr ho, ?_⟩, rfl⟩
      rw [ea, eh]
      show (ix (ix (reachTab kinds) (o : Int)) (o : Int) && decide ((o : Int) = (o : Int))) = true
      rw [show ix (ix (reachTab kinds) (o : Int)) (o : Int) = true from hoo]; simp
    have hm : aroundM (reachTab kinds) (k : Int) ∈ knotsM kinds := by
      rw [ek, ← ea]
      exact List.mem_map.mpr ⟨_, al _ hmem, rfl⟩
    obtain ⟨j, hj, e⟩ := List.mem_iff_getElem.mp hm
    refine ⟨j, hj, ?_⟩
    rw [show ix (knotsM kinds) (j : Int) = (knotsM kinds)[j] from ix_getElem (by omega) (by rw [Int.toNat_natCast]; exact List.getElem?_eq_getElem hj), e]
    exact hin
theorem number_none {kinds : List (List Int)} {n e : Int} (h : Good kinds n e) (hn : n ≤ 1000) {k : Int} (h0 : 0 ≤ k) (h1 : k < kinds.length) : decide (ix (numbersM kinds) k = none) = !knotted (reachTab kinds) k := by
  rw [number_is h hn h0 h1, Bool.eq_iff_iff, decide_eq_true_eq, Bool.not_eq_true', Option.map_eq_none_iff, List.head?_eq_none_iff]
  unfold holds
  rw [List.filter_eq_nil_iff]
  constructor
  · intro q
    cases z : knotted (reachTab kinds) k with
    | false => rfl
    | true =>
      obtain ⟨j, hj, hk⟩ := (knot_iff h hn h0 h1).mpr z
      exact absurd (decide_eq_true hk) (q j (List.mem_range.mpr hj))
  · intro q j hj z
    have := (knot_iff h hn h0 h1).mp ⟨j, List.mem_range.mp hj, of_decide_eq_true z⟩
    rw [q] at this; cases this

def bookFs (ks : List (List Int)) : List (Str × Cl) := [("kinds", ⟨tTup (tTup tI), ks⟩)]
abbrev tBook (C : Addr) : Ty (List (List Int)) := tOb C bookFs
theorem e_kinds {X : Cx} {G : List Sl} {a : Expr} {pos : Pos} {C : Addr} {ks : List (List Int)} (he : E X G a (tBook C) ks) (hC : Cls X.K C) (hna : NoAttr X.K C "kinds") (hb : attributeBase a "kinds" X.env (eval a X.env) = eval a X.env := by rfl) : E X G (.Attribute a "kinds" pos) (tTup (tTup tI)) ks :=
  e_fld (cl := ⟨tTup (tTup tI), ks⟩) he hC hna rfl hb

noncomputable def landsM (kinds : List (List Int)) (k : Int) : List (List Int) := landK kinds (reachTab kinds) k
noncomputable def splandings (K : Fg) (C : Addr) : Sp := spG K (fun i : List (List Int) × Int => [.vl (tBook C) i.1, .vl tI i.2]) (fun i => (Good i.1 1000 1000 ∧ 0 ≤ i.2 ∧ i.2 < i.1.length) ∧ cntK i.1 (reachTab i.1) i.2 < 8000) (tTup (tTup tI)) (fun i => landsM i.1 i.2)
structure Itm (kinds : List (List Int)) (N : Nat) (p : List Int × Int) : Prop where
  w : p.1.length ≤ N
  lo : -3 ≤ p.2
  hi : p.2 < kinds.length
theorem steps_itm {kinds : List (List Int)} (hg : Good kinds 1000 1000) {t : Int} (t0 : 0 ≤ t) (t1 : t < kinds.length) {w : List Int} {N : Nat} (hw : w.length + 1 ≤ N) : ∀ p ∈ stepsU kinds w t, Itm kinds N p := fun p hp => by
  obtain ⟨e, he, rfl⟩ := List.mem_map.mp hp
  have := (hg.row _ (ix_mem (xs := kinds) t0 t1)).2 _ (row_mem (kinds := kinds) t (List.mem_range.mp he))
  exact ⟨by simp; omega, this.1, this.2⟩
section
variable {P : Program} {w : World} {K : Fg} {mg : Str → Option Value} {base : Heap}
theorem sc_landings : FnScope ["book", "kind", "kinds", "numbers", "live", "found", "waiting", "way", "target"] ["book", "kind"] (defScope slandings) := ⟨rfl, rfl, rfl, by decide +kernel, rfl, by decide +kernel, by decide +kernel⟩
theorem oklandings {C : Addr} (hC : Cls K C) (hna : NoAttr K C "kinds") {f : Addr} {fd : FuncData} (F : Fun K "landings" "landings" slandings f fd) (b : Bi mg) (Cknot_numbers : Fn P w K mg base CX0 4 "knot_numbers" ["kinds"] (spknot_numbers K)) (Clive_flags : Fn P w K mg base CX0 5 "live_flags" ["kinds"] (splive_flags K)) (Cone_step_on : Fn P w K mg base CX0 1 "one_step_on" ["kinds", "way", "kind"] (spone_step_on K)) (Cone_step_onG : Fn P w K mg base CX0 1 "one_step_on" ["kinds", "way", "kind"] (spone_step_onG K)) : FnOk P w K mg base CX0 6 f fd ["book", "kind"] (splandings K C) := by
  refine fn_ok F sc_landings 7 rfl (fun _ => rfl) (fun cdv A outer s H E hr ⟨book, kind⟩ hp => ?_)
  dsimp only at hp ⊢
  obtain ⟨⟨hg, k0, k1⟩, hN⟩ := hp
  have hlen := hg.len
  have W := web_of hg (by omega)
  have hnl : (numbersM book).length = book.length := numUpTo_len _ _ _
  have hll : (liveM book).length = book.length := by unfold liveM; simp
  have hnn : ∀ u : Int, 0 ≤ u → u < book.length → (!decide (ix (numbersM book) u = none)) = knotted (reachTab book) u := fun u u0 u1 => by rw [number_none hg (by omega) u0 u1, Bool.not_not]
  have hlv : ∀ u : Int, 0 ≤ u → u < book.length → ix (liveM book) u = aliveM book (reachTab book) u := fun u u0 u1 => by
    obtain ⟨u, rfl⟩ : ∃ j : Nat, u = (j : Int) := ⟨u.toNat, by omega⟩
    unfold liveM; rw [ix_range (by omega)]
  refine b_cons (s_set 2 (e_kinds (e_var 0) hC hna) ?_ sc_landings.nd)
  refine b_cons (s_set 3 (e_call Cknot_numbers (hr.mono (by decide)) book (ea_cons (e_var 2) ea_nil) hg) ?_ sc_landings.nd)
  refine b_cons (s_set 4 (e_call Clive_flags (hr.mono (by decide)) book (ea_cons (e_var 2) ea_nil) hg) ?_ sc_landings.nd)
  refine b_cons (s_own 5 (el_lst (s := tTup tI) eh_nil) ?_ sc_landings.nd)
  refine b_cons (s_ownX 6 (elx_call (P := fun y => y = stepsD book [] kind) Cone_step_on (hr.mono (by decide)) (EA.toX (ea_cons (e_var 2) (ea_cons (e_tup eh_nil) (ea_cons (e_var 1) ea_nil)))) (fun ss hss => ⟨(book, [], kind), hss.symm, ⟨hg, by simp, k0, k1⟩, fun y hy => hy⟩)) ?_ sc_landings.nd)
  rintro _ rfl
  unfold landsM
  generalize numbersM book = numbers at hnl hnn ⊢
  generalize liveM book = live at hll hlv ⊢
  generalize reachTab book = tb at W hN hnn hlv ⊢
  have hst := szS_steps W k0 k1 []
  have hls := land_step W k0 k1 []
  have hm0 : (landK book tb kind).map (([] : List Int) ++ ·) = landK book tb kind := by simp
  rw [hm0] at hls
  have hi0 := steps_itm hg k0 k1 (w := []) (N := 8000) (by simp)
  refine b_cons (s_while (fun m G' => ∃ (fo : List (List Int)) (wt : List (List Int × Int)) (a b : Sl), ((fo ++ wt.reverse.flatMap (expK book tb) = landK book tb kind ∧ fo.length + szS book tb wt ≤ cntK book tb kind) ∧ m = szS book tb wt ∧ ∀ p ∈ wt, Itm book (8000 - szS book tb wt) p) ∧ G' = [.vl (tBook C) book, .vl tI kind, .vl (tTup (tTup tI)) book, .vl (tTup (tO tI)) numbers, .vl (tTup tB) live, .ow (tTup tI) fo, .ow (tP2 (tTup tI) tI) wt, a, b]) _ _ (Sub.refl _) ⟨[], stepsD book [] kind, _, _, ⟨⟨by rw [stepsD_eq, List.reverse_reverse, List.nil_append, hls], by rw [stepsD_eq, szS_rev, hst]; simp⟩, rfl, fun p hp => by
    rw [stepsD_eq] at hp ⊢
    have := steps_itm hg k0 k1 (w := []) (N := 8000 - cntK book tb kind) (by simp; omega) p (List.mem_reverse.mp hp)
    rw [szS_rev, hst]; exact this⟩, rfl⟩ ?_)
  rintro m _ ⟨fo, wt, a, b', ⟨⟨h1, h2⟩, h3, h4⟩, rfl⟩
  refine ⟨_, t_read 6 rfl (t_lst (e_var 6)), fun h => ?_, fun h => ?_⟩
  · rcases List.eq_nil_or_concat wt with z | ⟨zs, ⟨way, target⟩, z⟩
    · subst z; cases h
    rw [List.concat_eq_append] at z
    subst z
    have hit := h4 (way, target) (by simp)
    have hz1 : szS book tb (zs ++ [(way, target)]) = szS book tb zs + szK book tb target := by rw [szS_app, szS_one]
    have hzk : 1 ≤ szK book tb target := by unfold szK; omega
    have hfl := szS_len (kinds := book) (tb := tb) zs
    have hzs : ∀ p ∈ zs, Itm book (8000 - szS book tb zs) p := fun p hp => by
      have := h4 p (by simp [hp])
      exact ⟨by have := this.w; omega, this.lo, this.hi⟩
    rw [List.reverse_append, List.flatMap_append] at h1
    have hone : ([(way, target)] : List (List Int × Int)).reverse.flatMap (expK book tb) = expK book tb (way, target) := by simp
    rw [hone] at h1
    refine b_cons (s_popU 6 7 8 rfl ?_ sc_landings.nd rfl)
    have tl := hit.lo
    have th := hit.hi
    have tw := hit.w
    dsimp only at tl th tw
    refine b_cons (s_if (TW.toT (w_or (t_cv (e_var 8) (e_neg e_int) cv_eqI) (fun _ => (w_or1 (TW.toT (w_and (t_cv (e_var 8) e_int cv_ge) (fun hh => (w_and1 (t_cv (e_ixT (e_var 3) (e_var 8) (by have := of_decide_eq_true hh; exact atI_ix (by omega) (by omega))) e_non (cv_isnotN (fun _ v r => none_isO r))))))))))) (fun hc => ?_) (fun hc => ?_))
    · have hL : isL tb target = true := by
        unfold isL
        by_cases q : 0 ≤ target
        · rw [← hnn target q th]; exact hc
        · rw [decide_eq_false q, Bool.false_and] at hc ⊢; exact hc
      have he : expK book tb (way, target) = [way] := by unfold expK; rw [if_pos hL]
      rw [he] at h1
      refine b_cons (s_app 5 rfl (e_var 7) (by omega) ?_)
      refine b_nil (b_nil ⟨_, by rw [h3]; omega, fo ++ [way], zs, _, _, ⟨⟨by rw [List.append_assoc]; exact h1, by rw [List.length_append, List.length_singleton]; omega⟩, rfl, hzs⟩, rfl⟩)
    · have hL : isL tb target = false := by
        unfold isL
        by_cases q : 0 ≤ target
        · rw [← hnn target q th]; exact hc
        · rw [decide_eq_false q, Bool.false_and] at hc ⊢; exact hc
      refine b_cons (s_if (TW.toT (w_and (t_cv (e_var 8) e_int cv_ge) (fun hh => (w_and1 (t_val (e_ixT (e_var 4) (e_var 8) (by have := of_decide_eq_true hh; exact atI_ix (by omega) (by omega)))))))) (fun hd => ?_) (fun hd => ?_))
      · obtain ⟨d1, d2⟩ := (Bool.and_eq_true _ _).mp hd
        have d0 := of_decide_eq_true d1
        rw [hlv target d0 th] at d2
        have hgo : goesM book tb target = true := by unfold goesM; rw [hL, d1, d2]; rfl
        have hps := goes_passes hgo
        have he : expK book tb (way, target) = (landK book tb target).map (way ++ ·) := by unfold expK; rw [if_neg (by rw [hL]; decide), if_pos hgo]
        have hzt : szK book tb target = 1 + cntK book tb target := by unfold szK; rw [if_pos hps]
        have hst2 := szS_steps W d0 th way
        have hsl := szS_len (kinds := book) (tb := tb) (stepsD book way target)
        rw [stepsD_eq, szS_rev, hst2, ← stepsD_eq] at hsl
        rw [he, land_step W d0 th way] at h1
        have hsz : szS book tb (zs ++ stepsD book way target) = szS book tb zs + cntK book tb target := by rw [szS_app, stepsD_eq, szS_rev, hst2]
        refine b_cons (s_ext 6 rfl (e_call Cone_step_onG (hr.mono (by decide)) (book, way, target) (ea_cons (e_var 2) (ea_cons (e_var 7) (ea_cons (e_var 8) ea_nil))) (show Good book 1000 1000 ∧ way.length ≤ 10000 ∧ 0 ≤ target ∧ target < book.length from ⟨hg, by omega, d0, th⟩)) (by dsimp only; omega) ?_)
        refine b_nil (b_nil (b_nil ⟨_, by rw [h3]; omega, fo, zs ++ stepsD book way target, _, _, ⟨⟨by rw [List.reverse_append, List.flatMap_append, stepsD_eq, List.reverse_reverse]; exact h1, by omega⟩, rfl, fun p hp => ?_⟩, rfl⟩))
        rcases List.mem_append.mp hp with q | q
        · have hq := h4 p (by simp [q])
          exact ⟨by have := hq.w; rw [hsz]; rw [hz1] at this; omega, hq.lo, hq.hi⟩
        · rw [stepsD_eq] at q
          exact steps_itm hg d0 th (w := way) (by rw [hsz]; rw [hz1] at tw; omega) p (List.mem_reverse.mp q)
      · have hgo : goesM book tb target = false := by
          unfold goesM
          by_cases q : 0 ≤ target
          · rw [hlv target q th] at hd; rw [hd, Bool.and_false]
          · rw [decide_eq_false q, Bool.false_and, Bool.and_false]
        have he : expK book tb (way, target) = [] := by unfold expK; rw [if_neg (by rw [hL]; decide), if_neg (by rw [hgo]; decide)]
        rw [he, List.nil_append] at h1
        exact b_nil (b_nil (b_nil ⟨_, by rw [h3]; omega, fo, zs, _, _, ⟨⟨h1, by omega⟩, rfl, hzs⟩, rfl⟩))
  · have hw : wt = [] := by cases wt with | nil => rfl | cons x xs => cases h
    subst hw
    refine b_freeze 5 rfl ?_
    refine b_cons (s_ret (e_tupL b.tuple (e_var 5)) (fun M v r => ret_is r ?_))
    rw [← h1]; simp
end

def sp_law_landings (K : Fg) : Sp := spG K (fun i : List (List Int) × List (List Bool) × List Bool × Int => [.vl (tTup (tTup tI)) i.1, .vl (tLst (tLst tB)) i.2.1, .vl (tLst tB) i.2.2.1, .vl tI i.2.2.2]) (fun i => ((Good i.1 100 100 ∧ Wb i.1 i.2.1) ∧ i.2.2.1 = aliveL i.1 i.2.1 i.1.length) ∧ (0 ≤ i.2.2.2 ∧ i.2.2.2 < i.1.length) ∧ cntK i.1 i.2.1 i.2.2.2 < 8000) (tLst (tTup tI)) (fun i => landK i.1 i.2.1 i.2.2.2)
section
variable {P : Program} {w : World} {K : Fg} {mg : Str → Option Value} {base : Heap}
theorem sc_law_landings : FnScope ["kinds", "reach", "live", "k", "found", "waiting", "e", "turn", "longer", "pair", "t"] ["kinds", "reach", "live", "k"] (defScope s_law_landings) := ⟨rfl, rfl, rfl, by decide +kernel, rfl, by decide +kernel, by decide +kernel⟩
theorem ok_law_landings {f : Addr} {fd : FuncData} (F : Fun K "_law_landings" "_law_landings" s_law_landings f fd) (b : Bi mg)  : FnOk P w K mg base CX0 1 f fd ["kinds", "reach", "live", "k"] (sp_law_landings K) := by
  refine fn_ok F sc_law_landings 7 rfl (fun _ => rfl) (fun cdv A outer s H E hr ⟨kinds, tb, live, k⟩ hp => ?_)
  dsimp only at hp ⊢
  obtain ⟨⟨⟨hg, W⟩, rfl⟩, ⟨k0, k1⟩, hN⟩ := hp
  have hlen := hg.len
  have htl := W.len
  have hg' := hg.mono (n' := 1000) (e' := 1000) (by omega) (by omega)
  have hrw := fun (k : Int) (h0 : 0 ≤ k) (h1 : k < tb.length) => W.T.sq.row _ (ix_mem (xs := tb) (i := k) h0 h1)
  have hrk := fun (k : Int) (h0 : 0 ≤ k) (h1 : k < kinds.length) => (hg.row _ (ix_mem (xs := kinds) (i := k) h0 h1)).1
  have hll : (aliveL kinds tb kinds.length).length = kinds.length := by unfold aliveL; simp
  have hlv : ∀ u : Int, 0 ≤ u → u < kinds.length → ix (aliveL kinds tb kinds.length) u = aliveM kinds tb u := fun u u0 u1 => by
    obtain ⟨u, rfl⟩ : ∃ j : Nat, u = (j : Int) := ⟨u.toNat, by omega⟩
    unfold aliveL; rw [ix_range (by omega)]
  generalize aliveL kinds tb kinds.length = live at hll hlv ⊢
  have hr0 := hrk k k0 k1
  refine b_cons (s_own 4 (el_lst (s := tTup tI) eh_nil) ?_ sc_law_landings.nd)
  refine b_cons (s_lc 5 (lc_R (f := fun e : Nat => ([(e : Int)], ix (ix kinds k) (e : Int))) (own := [("e", 6)]) b.range (e_lenT b.len (e_ixT (e_var 0) (e_var 3) (atI_ix (by omega) (by omega)))) (by omega) 6 (fun s0 H C cl fp m hx => (e_p2 (e_tup (eh_cons (e_var 6) eh_nil)) (e_ixT (e_ixT (e_var 0) (e_var 3) (atI_ix (by omega) (by omega))) (e_var 6) (atI_ix (by omega) (by omega))))) (blkOk_by (N := ["kinds", "reach", "live", "k", "found", "waiting", "e", "turn", "longer", "pair", "t"]) (sc := defScope s_law_landings) (by decide +kernel)) (fun _ _ _ _ _ => pg_name sc_law_landings.nd rfl (by first | exact Or.inl rfl | exact Or.inr rfl))) ?_ rfl sc_law_landings.nd)
  rw [Int.toNat_natCast]
  have e0 : (List.range (ix kinds k).length).map (fun e : Nat => ([(e : Int)], ix (ix kinds k) (e : Int))) = stepsU kinds [] k := by unfold stepsU; simp
  rw [e0]
  refine b_freeze 5 rfl ?_
  have hst := szS_steps W k0 k1 []
  have hls := land_step W k0 k1 []
  have hm0 : (landK kinds tb k).map (([] : List Int) ++ ·) = landK kinds tb k := by simp
  rw [hm0] at hls
  have hi0 := steps_itm hg' k0 k1 (w := []) (N := 1) (by simp)
  have hrt : ∀ (t : Int) (w : List Int), 0 ≤ t → t < kinds.length → ∀ p ∈ stepsU kinds w t, goesM kinds tb p.2 = true → rk tb p.2 < rk tb t := fun t w t0 t1 p hp hgo => by
    obtain ⟨e, he, rfl⟩ := List.mem_map.mp hp
    exact rk_lt W t0 t1 (row_mem (kinds := kinds) t (List.mem_range.mp he)) (goes_passes hgo)
  refine b_cons (s_forR 7 (fun m G' => ∃ (fo : List (List Int)) (wt : List (List Int × Int)) (a b c d : Sl), (((fo ++ wt.flatMap (expK kinds tb)).Perm (landK kinds tb k) ∧ fo.length + szS kinds tb wt ≤ cntK kinds tb k) ∧ ((∀ p ∈ wt, Itm kinds (m + 1) p) ∧ (∀ p ∈ wt, goesM kinds tb p.2 = true → rk tb p.2 + m + 1 ≤ kinds.length)) ∧ (m ≤ kinds.length ∨ wt = [])) ∧ G' = [.vl (tTup (tTup tI)) kinds, .vl (tLst (tLst tB)) tb, .vl (tLst tB) live, .vl tI k, .ow (tTup tI) fo, .vl (tLst (tP2 (tTup tI) tI)) wt, .un, .un, .un, .un, .un]) _ b.range (e_add (e_lenT b.len (e_var 0)) e_int) (by omega) (Sub.refl _) ⟨[], stepsU kinds [] k, .un, .un, .un, .un, ⟨⟨by rw [List.nil_append, hls], by rw [hst]; simp⟩, ⟨hi0, fun p hp hgo => by have := hrt k [] k0 k1 p hp hgo; have := rk_le (tb := tb) k; omega⟩, .inl (by omega)⟩, rfl⟩ ?_ ?_ sc_law_landings.nd rfl)
  · rintro m _ hm ⟨fo, wt, _, _, _, _, ⟨⟨h1, h2⟩, ⟨h3, h4⟩, h5⟩, rfl⟩
    refine b_cons (s_own 8 (el_lst (s := tP2 (tTup tI) tI) eh_nil) ?_ sc_law_landings.nd)
    refine b_freeze 8 rfl ?_
    have i0 : (fo ++ ((wt.drop 0).flatMap (expK kinds tb) ++ ([] : List (List Int × Int)).flatMap (expK kinds tb))).Perm (landK kinds tb k) := by simpa using h1
    have i1 : fo.length + (szS kinds tb (wt.drop 0) + szS kinds tb []) ≤ cntK kinds tb k := by rw [List.drop_zero]; show _ + (_ + 0) ≤ _; omega
    have i2 : ∀ p ∈ ([] : List (List Int × Int)), Itm kinds (m + 2) p := fun p hp => by cases hp
    have i3 : ∀ p ∈ ([] : List (List Int × Int)), goesM kinds tb p.2 = true → rk tb p.2 + (m + 1) + 1 ≤ kinds.length := fun p hp => by cases hp
    refine b_cons (s_forL 9 (fun j G' => ∃ (fo : List (List Int)) (lo : List (List Int × Int)), (((fo ++ ((wt.drop j).flatMap (expK kinds tb) ++ lo.flatMap (expK kinds tb))).Perm (landK kinds tb k) ∧ fo.length + (szS kinds tb (wt.drop j) + szS kinds tb lo) ≤ cntK kinds tb k) ∧ ((∀ p ∈ lo, Itm kinds (m + 2) p) ∧ (∀ p ∈ lo, goesM kinds tb p.2 = true → rk tb p.2 + (m + 1) + 1 ≤ kinds.length)) ∧ (m + 1 ≤ kinds.length ∨ lo = [])) ∧ G' = [.vl (tTup (tTup tI)) kinds, .vl (tLst (tLst tB)) tb, .vl (tLst tB) live, .vl tI k, .ow (tTup tI) fo, .vl (tLst (tP2 (tTup tI) tI)) wt, .un, .vl tI (m : Int), .vl (tLst (tP2 (tTup tI) tI)) lo, .un, .un]) _ (e_var 5) (Sub.refl _) ⟨fo, [], ⟨⟨i0, i1⟩, ⟨i2, i3⟩, .inr rfl⟩, rfl⟩ ?_ ?_ sc_law_landings.nd rfl)
    · rintro j ⟨way, target⟩ _ hx ⟨fo, lo, ⟨⟨g1, g2⟩, ⟨g3, g4⟩, g5⟩, rfl⟩
      have hmem := List.mem_of_getElem? hx
      have hit := h3 _ hmem
      have hgt := h4 _ hmem
      have tl := hit.lo
      have th := hit.hi
      have tw := hit.w
      dsimp only at tl th tw hgt
      have hdr : wt.drop j = (way, target) :: wt.drop (j + 1) := by
        have hl := (List.getElem?_eq_some_iff.mp hx)
        obtain ⟨hl1, hl2⟩ := hl
        rw [List.drop_eq_getElem_cons hl1, hl2]
      rw [hdr, List.flatMap_cons] at g1
      have hz1 : szS kinds tb (wt.drop j) = szK kinds tb target + szS kinds tb (wt.drop (j + 1)) := by rw [hdr]; unfold szS; rw [List.map_cons, List.sum_cons]
      have hzk : 1 ≤ szK kinds tb target := by unfold szK; omega
      have hll2 := szS_len (kinds := kinds) (tb := tb) lo
      refine b_cons (s_set 10 (TL.E.is (e_2b (e_var 9) e_int) (x' := target) rfl) ?_ sc_law_landings.nd)
      refine b_cons (s_if (TW.toT (w_or (t_cv (e_var 10) (e_neg e_int) cv_eqI) (fun _ => (w_or1 (TW.toT (w_and (t_cv (e_var 10) e_int cv_ge) (fun hh => (w_and1 (t_val (e_ixL (e_ixL (e_var 1) (e_var 10) (by have := of_decide_eq_true hh; exact atI_ix (by omega) (by omega))) (e_var 10) (by have := of_decide_eq_true hh; have := hrw target (by omega) (by omega); exact atI_ix (by omega) (by omega)))))))))))) (fun hc => ?_) (fun hc => ?_))
      · have hL : isL tb target = true := hc
        have he : expK kinds tb (way, target) = [way] := by unfold expK; rw [if_pos hL]
        rw [he] at g1
        refine b_cons (s_app 4 rfl (TL.E.is (e_2a (e_var 9) e_int) (x' := way) rfl) (by omega) ?_)
        refine b_nil (B.weak (b_nil ⟨fo ++ [way], lo, ⟨⟨by rw [List.append_assoc]; simpa using g1, by rw [List.length_append, List.length_singleton]; omega⟩, ⟨g3, g4⟩, g5⟩, rfl⟩) (.same (.same (.same (.same (.same (.same (.un (.same (.same (.un (.un .nil))))))))))))
      · have hL : isL tb target = false := hc
        refine b_cons (s_if (TW.toT (w_and (t_cv (e_var 10) e_int cv_ge) (fun hh => (w_and1 (t_val (e_ixL (e_var 2) (e_var 10) (by have := of_decide_eq_true hh; exact atI_ix (by omega) (by omega)))))))) (fun hd => ?_) (fun hd => ?_))
        · obtain ⟨d1, d2⟩ := (Bool.and_eq_true _ _).mp hd
          have d0 := of_decide_eq_true d1
          rw [hlv target d0 th] at d2
          have hgo : goesM kinds tb target = true := by unfold goesM; rw [hL, d1, d2]; rfl
          have hps := goes_passes hgo
          have hrg := hgt hgo
          have he : expK kinds tb (way, target) = (landK kinds tb target).map (way ++ ·) := by unfold expK; rw [if_neg (by rw [hL]; decide), if_pos hgo]
          have hzt : szK kinds tb target = 1 + cntK kinds tb target := by unfold szK; rw [if_pos hps]
          have hst2 := szS_steps W d0 th way
          have hsl := szS_len (kinds := kinds) (tb := tb) (stepsU kinds way target)
          rw [hst2] at hsl
          rw [he, land_step W d0 th way] at g1
          have hrt0 := hrk target d0 th
          refine b_cons (s_set 8 (EL.toE (el_cat (e_var 8) (TL.E.is (EL.toE (el_lc (lc_R (f := fun e : Nat => (way ++ [(e : Int)], ix (ix kinds target) (e : Int))) (own := [("e", 6)]) b.range (e_lenT b.len (e_ixT (e_var 0) (e_var 10) (atI_ix (by omega) (by omega)))) (by omega) 6 (fun s0 H C cl fp m hx => (e_p2 (e_catA (TL.E.is (e_2a (e_var 9) e_int) (x' := way) rfl) (e_tup (eh_cons (e_var 6) eh_nil)) (by simp only [List.length_cons, List.length_nil]; omega)) (e_ixT (e_ixT (e_var 0) (e_var 10) (atI_ix (by omega) (by omega))) (e_var 6) (atI_ix (by omega) (by omega))))) (blkOk_by (N := ["kinds", "reach", "live", "k", "found", "waiting", "e", "turn", "longer", "pair", "t"]) (sc := defScope s_law_landings) (by decide +kernel)) (fun _ _ _ _ _ => pg_name sc_law_landings.nd rfl (by first | exact Or.inl rfl | exact Or.inr rfl))) rfl sc_law_landings.nd)) (x' := stepsU kinds way target) (by rw [Int.toNat_natCast]; rfl)) (by omega))) ?_ sc_law_landings.nd)
          refine b_nil (b_nil (B.weak (b_nil ⟨fo, lo ++ stepsU kinds way target, ⟨⟨?_, by rw [szS_app, hst2]; omega⟩, ⟨fun p hp => ?_, fun p hp hgo => ?_⟩, .inl (by omega)⟩, rfl⟩) (.same (.same (.same (.same (.same (.same (.un (.same (.same (.un (.un .nil)))))))))))))
          · refine List.Perm.trans ?_ g1
            rw [List.flatMap_append, List.append_assoc]
            refine List.Perm.append_left fo ?_
            refine List.Perm.trans (List.Perm.append_left _ List.perm_append_comm) ?_
            rw [← List.append_assoc, ← List.append_assoc]
            exact List.Perm.append_right _ List.perm_append_comm
          · rcases List.mem_append.mp hp with q | q
            · exact g3 p q
            · exact steps_itm hg' d0 th (w := way) (by omega) p q
          · rcases List.mem_append.mp hp with q | q
            · exact g4 p q hgo
            · have := hrt target way d0 th p q hgo
              omega
        · have hgo : goesM kinds tb target = false := by
            unfold goesM
            by_cases q : 0 ≤ target
            · rw [hlv target q th] at hd; rw [hd, Bool.and_false]
            · rw [decide_eq_false q, Bool.false_and, Bool.and_false]
          have he : expK kinds tb (way, target) = [] := by unfold expK; rw [if_neg (by rw [hL]; decide), if_neg (by rw [hgo]; decide)]
          rw [he, List.nil_append] at g1
          exact b_nil (b_nil (B.weak (b_nil ⟨fo, lo, ⟨⟨g1, by omega⟩, ⟨g3, g4⟩, g5⟩, rfl⟩) (.same (.same (.same (.same (.same (.same (.un (.same (.same (.un (.un .nil)))))))))))))
    · rintro _ ⟨fo, lo, ⟨⟨g1, g2⟩, ⟨g3, g4⟩, g5⟩, rfl⟩
      rw [List.drop_length, List.flatMap_nil, List.nil_append] at g1
      have g2' : fo.length + szS kinds tb lo ≤ cntK kinds tb k := by omega
      refine b_cons (s_set 5 (e_var 8) ?_ sc_law_landings.nd)
      exact B.weak (b_nil ⟨fo, lo, .un, .un, .un, .un, ⟨⟨g1, g2'⟩, ⟨g3, g4⟩, g5⟩, rfl⟩) (.same (.same (.same (.same (.same (.same (.un (.un (.un (.un (.un .nil)))))))))))
  · rintro _ ⟨fo, wt, _, _, _, _, ⟨⟨h1, h2⟩, ⟨h3, h4⟩, h5⟩, rfl⟩
    have hw : wt = [] := h5.resolve_left (by omega)
    subst hw
    rw [List.flatMap_nil, List.append_nil] at h1
    refine b_freeze 4 rfl ?_
    refine b_cons (s_ret (EL.toE (el_sort (fun x : List Int => x) key_way b.sorted (e_var 4) (fun x hx => land_ne _ _ x (h1.mem_iff.mp hx)) (fun x _ y _ e => e))) (fun M v r => ret_is r ?_))
    exact (sorted_land h1).symm
end

def rkI (tb : List (List Bool)) (k : Int) : Int := ((ix tb k).map fun d : Bool => if d = true then (1 : Int) else 0).sum
def pk (p : Int × Int) : List Int := [p.1, p.2]
def fbL (tb : List (List Bool)) : List (Int × Int) := (List.range tb.length).map fun k : Nat => (rkI tb (k : Int), (k : Int))
def fbM (tb : List (List Bool)) : List Int := (sortK pk (fbL tb)).map fun p => p.2
theorem ix_rangeB {α : Type} [Inhabited α] (xs : List α) : (List.range xs.length).map (fun e : Nat => ix xs (e : Int)) = xs := by
  apply List.ext_getElem?
  intro i
  rw [List.getElem?_map]
  by_cases h : i < xs.length
  · rw [List.getElem?_range h]
    have := ix_pos (xs := xs) (i := (i : Int)) (by omega) (by omega)
    rw [Int.toNat_natCast] at this
    rw [this]; rfl
  · rw [List.getElem?_eq_none (by simp; omega), List.getElem?_eq_none (by omega)]; rfl
theorem count_true {α : Type} (p : α → Bool) : ∀ xs : List α, ((xs.map p).map fun d : Bool => if d = true then (1 : Int) else 0).sum = ((xs.filter p).length : Int)
  | [] => rfl
  | x :: xs => by
    rw [List.map_cons, List.map_cons, List.sum_cons, count_true p xs]
    cases h : p x with
    | true => rw [List.filter_cons_of_pos h, List.length_cons, if_pos rfl]; omega
    | false => rw [List.filter_cons_of_neg (by rw [h]; decide), if_neg (by decide)]; omega
theorem rkI_eq {tb : List (List Bool)} (S : Sqr tb) {k : Int} (h0 : 0 ≤ k) (h1 : k < tb.length) : rkI tb k = (rk tb k : Int) := by
  have hr := S.row _ (ix_mem (xs := tb) h0 h1)
  unfold rkI rk
  rw [← count_true, ← hr, ix_rangeB]
theorem fb_perm (tb : List (List Bool)) : (fbM tb).Perm ((List.range tb.length).map fun k : Nat => (k : Int)) := by
  unfold fbM
  have := (sortK_perm pk (fbL tb)).map fun p => p.2
  refine this.trans ?_
  unfold fbL
  rw [List.map_map]
  exact List.Perm.refl _
theorem fb_len (tb : List (List Bool)) : (fbM tb).length = tb.length := by rw [(fb_perm tb).length_eq]; simp
theorem fb_mem {tb : List (List Bool)} {j : Int} : j ∈ fbM tb ↔ 0 ≤ j ∧ j < tb.length := by
  rw [(fb_perm tb).mem_iff, List.mem_map]
  exact ⟨fun ⟨k, hk, e⟩ => by have := List.mem_range.mp hk; omega, fun h => ⟨j.toNat, List.mem_range.mpr (by omega), by omega⟩⟩
theorem fb_nodup (tb : List (List Bool)) : (fbM tb).Nodup := (fb_perm tb).nodup_iff.mpr (List.pairwise_map.mpr (List.nodup_range.imp fun h => by omega))
theorem fb_before {tb : List (List Bool)} (S : Sqr tb) {m : Nat} {k j : Int} (hk : (fbM tb)[m]? = some k) (hj : 0 ≤ j ∧ j < tb.length) (hr : rk tb j < rk tb k) : j ∈ (fbM tb).take m := by
  have hkb := fb_mem.mp (List.mem_of_getElem? hk)
  have hjm := fb_mem.mpr hj
  obtain ⟨i, hi, e⟩ := List.mem_iff_getElem.mp hjm
  by_cases z : i < m
  · rw [← e]
    exact List.mem_take_iff_getElem.mpr ⟨i, by omega, rfl⟩
  · exfalso
    have hm := (List.getElem?_eq_some_iff.mp hk)
    obtain ⟨hml, hme⟩ := hm
    have hs := sortK_srtd pk (fbL tb)
    have hp := sortK_perm pk (fbL tb)
    have hfst : ∀ p ∈ sortK pk (fbL tb), p.1 = rkI tb p.2 := fun p hq => by
      have := hp.mem_iff.mp hq
      unfold fbL at this
      obtain ⟨k, _, rfl⟩ := List.mem_map.mp this
      rfl
    unfold fbM at hi e hml hme
    rw [List.length_map] at hi hml
    rw [List.getElem_map] at e hme
    by_cases y : i = m
    · subst y
      rw [e] at hme; rw [hme] at hr; omega
    · have := List.pairwise_iff_getElem.mp hs m i hml hi (by omega)
      have f1 := hfst _ (List.getElem_mem hml)
      have f2 := hfst _ (List.getElem_mem hi)
      rw [hme, rkI_eq S hkb.1 hkb.2] at f1
      rw [e, rkI_eq S hj.1 hj.2] at f2
      have key : ∀ p q : Int × Int, lexI (pk p) (pk q) = false → ¬ p.1 < q.1 := fun p q h => by
        unfold pk at h
        rw [lexI_cons] at h
        split at h
        · omega
        · have := of_decide_eq_false h; omega
      exact key _ _ this (by rw [f1, f2]; omega)
def sp_law_from_below (K : Fg) : Sp := spG K (fun i : List (List Bool) => [.vl (tLst (tLst tB)) i]) (fun i => Sqr i) (tLst tI) (fun i => fbM i)
section
variable {P : Program} {w : World} {K : Fg} {mg : Str → Option Value} {base : Heap}
theorem sc_law_from_below : FnScope ["reach", "many", "pair", "k", "flag"] ["reach"] (defScope s_law_from_below) := ⟨rfl, rfl, rfl, by decide +kernel, rfl, by decide +kernel, by decide +kernel⟩
theorem ok_law_from_below {f : Addr} {fd : FuncData} (F : Fun K "_law_from_below" "_law_from_below" s_law_from_below f fd) (b : Bi mg) : FnOk P w K mg base CX0 1 f fd ["reach"] (sp_law_from_below K) := by
  refine fn_ok F sc_law_from_below 4 rfl (fun _ => rfl) (fun cdv A outer s H E hr tb S => ?_)
  have hl := S.len
  refine b_cons (s_set 1 (e_lenL b.len (e_var 0)) ?_ sc_law_from_below.nd)
  have hsl : (sortK pk (fbL tb)).length ≤ 1000000 := by
    rw [(sortK_perm pk (fbL tb)).length_eq]; unfold fbL; rw [List.length_map, List.length_range]; omega
  refine b_cons (s_ret (EL.toE (el_lc (lc_L (f := fun p : Int × Int => p.2) (xs := sortK pk (fbL tb)) (own := [("pair", 2)]) (EL.toE (el_sort pk key_pair b.sorted (TL.E.is (EL.toE (el_lc (lc_R (f := fun k : Nat => (rkI tb (k : Int), (k : Int))) (own := [("k", 3)]) b.range (e_var 1) (by omega) 3 (fun s0 H C cl fp m hm => e_p2 (e_sum rfl b.sum (EL.toE (el_lc (lc_L (f := fun d : Bool => if d = true then (1 : Int) else 0) (own := [("flag", 4)]) (e_ixL (e_var 0) (e_var 3) (atI_ix (by omega) (by omega))) 4 (fun s0 H C cl fp j d hd => e_intB b.int (e_var 4)) (blkIn (N := ["reach", "many", "pair", "k", "flag"]) (by decide +kernel)) (by have := S.row _ (ix_mem (xs := tb) (i := (m : Int)) (by omega) (by omega)); omega) (fun _ _ _ _ _ => pg_name sc_law_from_below.nd rfl (by first | exact Or.inl rfl | exact Or.inr rfl))) rfl sc_law_from_below.nd))) (e_var 3)) (blkOk_by (N := ["reach", "many", "pair", "k", "flag"]) (sc := defScope s_law_from_below) (by decide +kernel)) (fun _ _ _ _ _ => pg_name sc_law_from_below.nd rfl (by first | exact Or.inl rfl | exact Or.inr rfl))) rfl sc_law_from_below.nd)) (by rw [Int.toNat_natCast]; rfl)) (fun x _ => by unfold pk; simp) (fun x _ y _ e => by unfold pk at e; simp at e; exact Prod.ext e.1 e.2))) 2 (fun s0 H C cl fp m x hx => e_2b (e_var 2) e_int) (blkOk_by (N := ["reach", "many", "pair", "k", "flag"]) (sc := defScope s_law_from_below) (by decide +kernel)) hsl (fun _ _ _ _ _ => pg_name sc_law_from_below.nd rfl (by first | exact Or.inl rfl | exact Or.inr rfl))) rfl sc_law_from_below.nd)) (fun M v r => r))
end

theorem ix_set {xs : List Int} {k j v : Int} (hk : 0 ≤ k ∧ k < xs.length) (hj : 0 ≤ j ∧ j < xs.length) : ix (xs.set k.toNat v) j = if j = k then v else ix xs j := by
  by_cases z : j = k
  · subst z
    rw [if_pos rfl]
    apply ix_getElem hj.1
    rw [List.getElem?_set_self (by omega)]
  · rw [if_neg z]
    apply ix_getElem hj.1
    rw [List.getElem?_set_ne (by omega)]
    exact ix_pos hj.1 hj.2
structure WI (kinds : List (List Int)) (tb : List (List Bool)) (D : List Int) (cs ss : List Int) : Prop where
  lc : cs.length = kinds.length
  ls : ss.length = kinds.length
  did : ∀ j ∈ D, ix cs j = (cntK kinds tb j : Int)
  not : ∀ j : Int, 0 ≤ j → j < kinds.length → j ∉ D → ix cs j = 0
  pos : ∀ j : Int, 0 ≤ j → j < kinds.length → 0 ≤ ix ss j
structure WJ (kinds : List (List Int)) (tb : List (List Bool)) (D : List Int) (k : Int) (c : Int) (cs ss : List Int) : Prop where
  lc : cs.length = kinds.length
  ls : ss.length = kinds.length
  did : ∀ j ∈ D, ix cs j = (cntK kinds tb j : Int)
  at_ : ix cs k = c
  not : ∀ j : Int, 0 ≤ j → j < kinds.length → j ∉ D → j ≠ k → ix cs j = 0
  pos : ∀ j : Int, 0 ≤ j → j < kinds.length → 0 ≤ ix ss j
def sp_law_way_items (K : Fg) : Sp := spE K (fun i : List (List Int) × List (List Bool) => [.vl (tTup (tTup tI)) i.1, .vl (tLst (tLst tB)) i.2]) (fun i => Good i.1 100 100 ∧ Wb i.1 i.2) (tLst tI) (fun i y => y.length = i.1.length ∧ ∀ k : Int, 0 ≤ k → k < i.1.length → (cntK i.1 i.2 k : Int) ≤ ix y k)
section
variable {P : Program} {w : World} {K : Fg} {mg : Str → Option Value} {base : Heap}
theorem sc_law_way_items : FnScope ["kinds", "reach", "counts", "steps", "k", "t"] ["kinds", "reach"] (defScope s_law_way_items) := ⟨rfl, rfl, rfl, by decide +kernel, rfl, by decide +kernel, by decide +kernel⟩
theorem ok_law_way_items {f : Addr} {fd : FuncData} (F : Fun K "_law_way_items" "_law_way_items" s_law_way_items f fd) (b : Bi mg) (C_law_from_below : Fn P w K mg base CX0 1 "_law_from_below" ["reach"] (sp_law_from_below K)) : FnOk P w K mg base CX0 2 f fd ["kinds", "reach"] (sp_law_way_items K) := by
  refine fn_okE F sc_law_way_items 4 rfl (fun _ => rfl) (fun cdv A outer s H E hr ⟨kinds, tb⟩ hp => ?_)
  dsimp only at hp ⊢
  obtain ⟨hg, W⟩ := hp
  have hlen := hg.len
  have htl := W.len
  have hrw := fun (k : Int) (h0 : 0 ≤ k) (h1 : k < tb.length) => W.T.sq.row _ (ix_mem (xs := tb) (i := k) h0 h1)
  have hz : (List.replicate (kinds.length : Int).toNat ([0] : List Int)).flatten = List.replicate kinds.length 0 := by rw [Int.toNat_natCast, flat_one]
  refine b_cons (s_own 2 (el_rep (EL.toE (el_lst (eh_cons e_int eh_nil))) (e_lenT b.len (e_var 0)) (by omega) (by simp only [List.length_cons, List.length_nil]; omega)) ?_ sc_law_way_items.nd)
  refine b_cons (s_own 3 (el_rep (EL.toE (el_lst (eh_cons e_int eh_nil))) (e_lenT b.len (e_var 0)) (by omega) (by simp only [List.length_cons, List.length_nil]; omega)) ?_ sc_law_way_items.nd)
  rw [hz]
  have ixz : ∀ j : Int, 0 ≤ j → j < kinds.length → ix (List.replicate kinds.length (0 : Int)) j = 0 := fun j h0 h1 => ix_getElem h0 (by rw [List.getElem?_replicate, if_pos (by omega)])
  refine b_cons (s_forL 4 (fun m G' => ∃ cs ss : List Int, WI kinds tb ((fbM tb).take m) cs ss ∧ G' = [.vl (tTup (tTup tI)) kinds, .vl (tLst (tLst tB)) tb, .ow tI cs, .ow tI ss, .un, .un]) _ (e_call C_law_from_below (hr.mono (by decide)) tb (ea_cons (e_var 1) ea_nil) W.T.sq) (Sub.refl _) ⟨_, _, ⟨by simp, by simp, fun j hj => by simp at hj, fun j h0 h1 _ => ixz j h0 h1, fun j h0 h1 => by rw [ixz j h0 h1]; omega⟩, rfl⟩ ?_ ?_ sc_law_way_items.nd rfl)
  · rintro m k _ hk ⟨cs, ss, hI, rfl⟩
    have hkb := fb_mem.mp (List.mem_of_getElem? hk)
    rw [htl] at hkb
    have hnd := fb_nodup tb
    have hkn : k ∉ (fbM tb).take m := fun h => by
      have hd : (fbM tb).take m ++ (fbM tb).drop m = fbM tb := List.take_append_drop _ _
      rw [← hd] at hnd
      have hin : k ∈ (fbM tb).drop m := List.mem_of_getElem? (i := 0) (by rw [List.getElem?_drop]; exact hk)
      exact (List.nodup_append.mp hnd).2.2 k h k hin rfl
    have hbf : ∀ t : Int, t ∈ ix kinds k → passes tb t = true → t ∈ (fbM tb).take m := fun t ht hp => by
      have t0 : 0 ≤ t := of_decide_eq_true ((Bool.and_eq_true _ _).mp hp).1
      have t1 := W.row k t hkb.1 hkb.2 ht
      exact fb_before W.T.sq hk ⟨t0, by omega⟩ (rk_lt W hkb.1 hkb.2 ht hp)
    have hDs : (fbM tb).take (m + 1) = (fbM tb).take m ++ [k] := take_snoc hk
    rw [hDs]
    have hDb : ∀ j ∈ (fbM tb).take m, 0 ≤ j ∧ j < kinds.length := fun j hj => by
      have := fb_mem.mp (List.mem_of_mem_take hj); rw [htl] at this; exact this
    generalize (fbM tb).take m = D at hI hkn hbf hDb ⊢
    refine b_cons (s_forT 5 (fun i G' => ∃ cs ss : List Int, WJ kinds tb D k ((((ix kinds k).take i).map (szK kinds tb)).sum : Nat) cs ss ∧ G' = [.vl (tTup (tTup tI)) kinds, .vl (tLst (tLst tB)) tb, .ow tI cs, .ow tI ss, .vl tI k, .un]) _ (e_ixT (e_var 0) (e_var 4) (atI_ix (by omega) (by omega))) (Sub.refl _) ⟨cs, ss, ⟨hI.lc, hI.ls, hI.did, by rw [hI.not k hkb.1 hkb.2 hkn]; simp, fun j h0 h1 h2 _ => hI.not j h0 h1 h2, hI.pos⟩, rfl⟩ ?_ ?_ sc_law_way_items.nd rfl)
    · rintro i t _ ht ⟨cs, ss, hJ, rfl⟩
      have htm := List.mem_of_getElem? ht
      have t1 := W.row k t hkb.1 hkb.2 htm
      have hcl := hJ.lc
      have hsl := hJ.ls
      rw [take_snoc ht, List.map_append, List.sum_append]
      refine b_cons (s_seti 2 (m := k.toNat) rfl (e_add (e_ixOw 2 rfl (e_var 4) (atI_ix (by omega) (by omega))) e_int) (e_var 4) (ixNp hkb.1 (by omega)) ?_)
      have hset := fun (v : Int) (xs : List Int) (hx : xs.length = kinds.length) (j : Int) (h0 : 0 ≤ j) (h1 : j < kinds.length) => ix_set (xs := xs) (v := v) (k := k) (j := j) ⟨hkb.1, by omega⟩ ⟨h0, by omega⟩
      have hJ1 : WJ kinds tb D k (((((ix kinds k).take i).map (szK kinds tb)).sum : Nat) + 1) (cs.set k.toNat (ix cs k + 1)) ss := ⟨by rw [List.length_set]; exact hcl, hsl, fun j hj => by
        have hjk : j ≠ k := fun z => hkn (by rw [← z]; exact hj)
        rw [hset _ _ hcl j (hDb j hj).1 (hDb j hj).2, if_neg hjk]; exact hJ.did j hj, by rw [hset _ _ hcl k hkb.1 hkb.2, if_pos rfl, hJ.at_], fun j h0 h1 h2 h3 => by rw [hset _ _ hcl j h0 h1, if_neg h3]; exact hJ.not j h0 h1 h2 h3, hJ.pos⟩
      generalize cs.set k.toNat (ix cs k + 1) = cs1 at hJ1 ⊢
      have hc1 := hJ1.lc
      refine b_cut (fun G' => ∃ cs ss : List Int, WJ kinds tb D k (((((ix kinds k).take i).map (szK kinds tb)).sum + ([t].map (szK kinds tb)).sum : Nat)) cs ss ∧ G' = [.vl (tTup (tTup tI)) kinds, .vl (tLst (tLst tB)) tb, .ow tI cs, .ow tI ss, .vl tI k, .vl tI t]) (s_if (TW.toT (w_and (t_cv (e_var 5) e_int cv_ge) (fun h => w_and1 (t_not (t_val (e_ixL (e_ixL (e_var 1) (e_var 5) (by have := of_decide_eq_true h; exact atI_ix (by omega) (by omega))) (e_var 5) (by have := of_decide_eq_true h; have := hrw t (by omega) (by omega); exact atI_ix (by omega) (by omega)))))))) (fun h => ?_) (fun h => ?_)) ?_
      · have hp : passes tb t = true := h
        have htD := hbf t htm hp
        have t0 := (hDb t htD).1
        refine b_cons (s_seti 2 (m := k.toNat) rfl (e_add (e_ixOw 2 rfl (e_var 4) (atI_ix (by omega) (by omega))) (e_ixOw 2 rfl (e_var 5) (atI_ix (by omega) (by omega)))) (e_var 4) (ixNp hkb.1 (by omega)) ?_)
        refine b_cons (s_seti 3 (m := k.toNat) rfl (e_add (e_ixOw 3 rfl (e_var 4) (atI_ix (by omega) (by omega))) (e_ixOw 3 rfl (e_var 5) (atI_ix (by omega) (by omega)))) (e_var 4) (ixNp hkb.1 (by omega)) ?_)
        have hszt : szK kinds tb t = 1 + cntK kinds tb t := by unfold szK; rw [if_pos hp]
        refine b_nil ⟨_, _, ⟨by rw [List.length_set]; exact hc1, by rw [List.length_set]; exact hsl, fun j hj => ?_, ?_, fun j h0 h1 h2 h3 => ?_, fun j h0 h1 => ?_⟩, rfl⟩
        · have hjk : j ≠ k := fun z => hkn (by rw [← z]; exact hj)
          rw [hset _ _ hc1 j (hDb j hj).1 (hDb j hj).2, if_neg hjk]; exact hJ1.did j hj
        · rw [hset _ _ hc1 k hkb.1 hkb.2, if_pos rfl, hJ1.at_, hJ1.did t htD, List.map_singleton, List.sum_singleton, hszt]; omega
        · rw [hset _ _ hc1 j h0 h1, if_neg h3]; exact hJ1.not j h0 h1 h2 h3
        · rw [hset _ _ hsl j h0 h1]
          have q1 := hJ1.pos j h0 h1
          have q2 := hJ1.pos k hkb.1 hkb.2
          have q3 := hJ1.pos t t0 t1
          split <;> omega
      · have hp : passes tb t = false := h
        have hszt : szK kinds tb t = 1 := by unfold szK; rw [if_neg (by rw [hp]; decide)]
        have e : ((((ix kinds k).take i).map (szK kinds tb)).sum + ([t].map (szK kinds tb)).sum : Nat) = (((ix kinds k).take i).map (szK kinds tb)).sum + 1 := by rw [List.map_singleton, List.sum_singleton, hszt]
        rw [e]
        exact b_nil ⟨_, _, hJ1, rfl⟩
      rintro _ ⟨cs2, ss2, hJ2, rfl⟩
      exact B.weak (b_nil ⟨_, _, hJ2, rfl⟩) (.same (.same (.same (.same (.same (.un .nil))))))
    · rintro _ ⟨cs, ss, hJ, rfl⟩
      rw [List.take_length, ← cnt_step W hkb.1 hkb.2] at hJ
      have hcl := hJ.lc
      have hsl := hJ.ls
      have p1 := hJ.pos k hkb.1 hkb.2
      have p2 := hJ.at_
      refine b_cons (s_seti 3 (m := k.toNat) rfl (e_add (e_ixOw 3 rfl (e_var 4) (atI_ix (by omega) (by omega))) (e_ixOw 2 rfl (e_var 4) (atI_ix (by omega) (by omega)))) (e_var 4) (ixNp hkb.1 (by omega)) ?_)
      refine B.weak (b_nil ⟨_, _, ⟨hcl, by rw [List.length_set]; exact hsl, fun j hj => ?_, fun j h0 h1 h2 => ?_, fun j h0 h1 => ?_⟩, rfl⟩) (.same (.same (.same (.same (.un (.un .nil))))))
      · rcases List.mem_append.mp hj with z | z
        · exact hJ.did j z
        · rw [List.mem_singleton.mp z]; exact p2
      · refine hJ.not j h0 h1 (fun z => h2 (List.mem_append.mpr (.inl z))) (fun z => h2 (List.mem_append.mpr (.inr (by rw [z]; simp))))
      · rw [ix_set (xs := ss) ⟨hkb.1, by omega⟩ ⟨h0, by omega⟩]
        have := hJ.pos j h0 h1
        split <;> omega
  · rintro _ ⟨cs, ss, hI, rfl⟩
    rw [List.take_length] at hI
    have hcl := hI.lc
    have hsl := hI.ls
    refine b_freeze 2 rfl ?_
    refine b_freeze 3 rfl ?_
    refine b_cons (s_ret (EL.toE (el_lc (lc_R (f := fun k : Nat => ix cs (k : Int) + ix ss (k : Int)) (own := [("k", 4)]) b.range (e_lenT b.len (e_var 0)) (by omega) 4 (fun s0 H C cl fp m hm => e_add (e_ixL (e_var 2) (e_var 4) (atI_ix (by omega) (by omega))) (e_ixL (e_var 3) (e_var 4) (atI_ix (by omega) (by omega)))) (blkOk_by (N := ["kinds", "reach", "counts", "steps", "k", "t"]) (sc := defScope s_law_way_items) (by decide +kernel)) (fun _ _ _ _ _ => pg_name sc_law_way_items.nd rfl (by first | exact Or.inl rfl | exact Or.inr rfl))) rfl sc_law_way_items.nd)) (fun M v r => ⟨_, ⟨?_, fun k h0 h1 => ?_⟩, r⟩))
    · simp
    · obtain ⟨k, rfl⟩ : ∃ j : Nat, k = (j : Int) := ⟨k.toNat, by omega⟩
      rw [Int.toNat_natCast, ix_range (by omega), hI.did (k : Int) (fb_mem.mpr (by omega))]
      have := hI.pos (k : Int) h0 h1
      omega
end

/-! _law_digits -/
structure DigS where
  row : List Int
  seed : Int
  rest : Int
  k : Int
def digStep (z : DigS) (s : Int) : DigS :=
  let seed := (z.seed * 48271 + 974711 * z.k + 12345) % 2147483647
  let twice := seed * (seed / 65537 + 3) % 2147483629
  if z.rest > 0 then ⟨z.row ++ [z.rest % s], seed, z.rest / s, z.k + 1⟩ else ⟨z.row ++ [twice / 19 % s], seed, z.rest, z.k + 1⟩
def digInit (cell : Int) : DigS := ⟨[], cell % 2147483629, if cell - 10 ^ 18 > 0 then cell - 10 ^ 18 else 0, 0⟩
def digRun (cell : Int) (sizes : List Int) : DigS := sizes.foldl digStep (digInit cell)
def digitsM (cell : Int) (sizes : List Int) : List Int := (digRun cell sizes).row
theorem digRun_snoc (cell : Int) (sizes : List Int) (s : Int) : digRun cell (sizes ++ [s]) = digStep (digRun cell sizes) s := by
  unfold digRun; rw [List.foldl_append]; rfl
theorem dig_inv (cell : Int) (sizes : List Int) : 0 ≤ (digRun cell sizes).seed ∧ (digRun cell sizes).seed < 2147483647 ∧ (digRun cell sizes).k = sizes.length ∧ (digRun cell sizes).row.length = sizes.length := by
  suffices h : ∀ (n : Nat) (sizes : List Int), sizes.length = n → 0 ≤ (digRun cell sizes).seed ∧ (digRun cell sizes).seed < 2147483647 ∧ (digRun cell sizes).k = sizes.length ∧ (digRun cell sizes).row.length = sizes.length from h _ sizes rfl
  intro n
  induction n with
  | zero =>
    intro sizes h
    have : sizes = [] := List.eq_nil_of_length_eq_zero h
    subst this
    refine ⟨?_, ?_, rfl, rfl⟩
    · show 0 ≤ cell % 2147483629; omega
    · show cell % 2147483629 < 2147483647; omega
  | succ n ih =>
    intro sizes h
    rcases List.eq_nil_or_concat sizes with e | ⟨l, s, e⟩
    · subst e; simp at h
    · rw [List.concat_eq_append] at e
      subst e
      have hl : l.length = n := by simp at h; exact h
      obtain ⟨h1, h2, h3, h4⟩ := ih l hl
      rw [digRun_snoc]
      unfold digStep
      simp only
      split <;> (refine ⟨?_, ?_, ?_, ?_⟩ <;> first | (show _ ≤ (_ % _ : Int); omega) | (show (_ % _ : Int) < _; omega) | simp [h3, h4])
theorem dig_good (cell : Int) : ∀ (sizes : List Int), (∀ s ∈ sizes, 0 < s) → Paired (fun d s : Int => 0 ≤ d ∧ d < s) (digitsM cell sizes) sizes := by
  intro sizes
  suffices h : ∀ (n : Nat) (sizes : List Int), sizes.length = n → (∀ s ∈ sizes, 0 < s) → Paired (fun d s : Int => 0 ≤ d ∧ d < s) (digitsM cell sizes) sizes from h _ sizes rfl
  intro n
  induction n with
  | zero =>
    intro sizes h _
    have : sizes = [] := List.eq_nil_of_length_eq_zero h
    subst this
    exact .nil
  | succ n ih =>
    intro sizes h hp
    rcases List.eq_nil_or_concat sizes with e | ⟨l, s, e⟩
    · subst e; simp at h
    · rw [List.concat_eq_append] at e
      subst e
      have hl : l.length = n := by simp at h; exact h
      have ih' := ih l hl (fun x hx => hp x (by simp [hx]))
      have hs : 0 < s := hp s (by simp)
      unfold digitsM at ih' ⊢
      rw [digRun_snoc]
      unfold digStep
      simp only
      split
      · exact paired_app ih' (.cons ⟨Int.emod_nonneg _ (by omega), Int.emod_lt_of_pos _ hs⟩ .nil)
      · exact paired_app ih' (.cons ⟨Int.emod_nonneg _ (by omega), Int.emod_lt_of_pos _ hs⟩ .nil)
theorem digits_len (cell : Int) (sizes : List Int) : (digitsM cell sizes).length = sizes.length := (dig_inv cell sizes).2.2.2
def sp_law_digits (K : Fg) : Sp := spG K (fun i : Int × List Int => [.vl tI i.1, .vl (tLst tI) i.2]) (fun i => i.2.length ≤ 3000 ∧ ∀ s ∈ i.2, 0 < s ∧ s < 1073741824) (tLst tI) (fun i => digitsM i.1 i.2)
section
variable {P : Program} {w : World} {K : Fg} {mg : Str → Option Value} {base : Heap}
theorem sc_law_digits : FnScope ["cell", "sizes", "row", "seed", "rest", "k", "twice"] ["cell", "sizes"] (defScope s_law_digits) := ⟨rfl, rfl, rfl, by decide +kernel, rfl, by decide +kernel, by decide +kernel⟩
theorem ok_law_digits {f : Addr} {fd : FuncData} (F : Fun K "_law_digits" "_law_digits" s_law_digits f fd) (b : Bi mg)  : FnOk P w K mg base CX0 1 f fd ["cell", "sizes"] (sp_law_digits K) := by
  refine fn_ok F sc_law_digits 5 rfl (fun _ => rfl) (fun cdv A outer s H E hr ⟨cell, sizes⟩ hp => ?_)
  dsimp only at hp ⊢
  obtain ⟨hz, hs⟩ := hp
  refine b_cons (s_own 2 (el_lst (s := tI) eh_nil) ?_ sc_law_digits.nd)
  refine b_cons (s_set 3 (e_mod (e_intI b.int (e_var 0)) e_int (by first | decide | omega)) ?_ sc_law_digits.nd)
  refine b_cons (s_set 4 (e_max rfl b.max e_int (e_sub (e_intI b.int (e_var 0)) (e_pow e_int e_int (by decide)))) ?_ sc_law_digits.nd)
  refine b_cons (s_forR 5 (fun m G' => G' = [.vl tI cell, .vl (tLst tI) sizes, .ow tI (digRun cell (sizes.take m)).row, .vl tI (digRun cell (sizes.take m)).seed, .vl tI (digRun cell (sizes.take m)).rest, .un, .un]) _ b.range (e_lenL b.len (e_var 1)) (by first | decide | omega) (Sub.refl _) rfl ?_ ?_ sc_law_digits.nd rfl)
  · rintro m _ hm rfl
    obtain ⟨x, hx, hax⟩ := atI_pos (xs := sizes) (i := (m : Int)) (by omega) hm
    rw [Int.toNat_natCast] at hx
    obtain ⟨hx0, hx1⟩ := hs x (List.mem_of_getElem? hx)
    obtain ⟨i1, i2, i3, i4⟩ := dig_inv cell (sizes.take m)
    have hl : (sizes.take m).length = m := by rw [List.length_take]; omega
    rw [hl] at i3 i4
    have st := digRun_snoc cell (sizes.take m) x
    rw [← take_snoc hx] at st
    refine b_cons (s_set 3 (e_mod (e_intI b.int (e_add (e_add (e_mulR (e_var 3) e_int (by decide)) (e_mulL e_int (e_var 5) (by decide))) e_int)) e_int (by first | decide | omega)) ?_ sc_law_digits.nd)
    refine b_cons (s_set 6 (e_mod (e_intI b.int (e_mulL (e_var 3) (e_add (e_div (e_var 3) e_int (by first | decide | omega)) e_int) (by first | decide | omega))) e_int (by first | decide | omega)) ?_ sc_law_digits.nd)
    refine b_cut (fun G' => Sub G' [.vl tI cell, .vl (tLst tI) sizes, .ow tI (digRun cell (sizes.take (m + 1))).row, .vl tI (digRun cell (sizes.take (m + 1))).seed, .vl tI (digRun cell (sizes.take (m + 1))).rest, .un, .un]) (s_if (t_cv (e_var 4) e_int cv_gt) (fun h => ?_) (fun h => ?_)) ?_
    · have h := of_decide_eq_true h
      refine b_cons (s_app 2 rfl (e_mod (e_intI b.int (e_var 4)) (e_ixL (e_var 1) (e_var 5) hax) hx0) (by omega) ?_)
      refine b_cons (s_set 4 (e_div (e_intI b.int (e_var 4)) (e_ixL (e_var 1) (e_var 5) hax) ⟨hx0, hx1⟩) ?_ sc_law_digits.nd)
      refine b_nil ?_
      rw [st]; unfold digStep; simp only [if_pos (show (digRun cell (sizes.take m)).rest > 0 from h), i3]
      exact .same (.same (.same (.same (.same (.un (.un .nil))))))
    · have h := of_decide_eq_false h
      refine b_cons (s_app 2 rfl (e_mod (e_div (e_var 6) e_int (by first | decide | omega)) (e_ixL (e_var 1) (e_var 5) hax) hx0) (by omega) ?_)
      refine b_nil ?_
      rw [st]; unfold digStep; simp only [if_neg (show ¬ (digRun cell (sizes.take m)).rest > 0 from h), i3]
      exact .same (.same (.same (.same (.same (.un (.un .nil))))))
    intro G' hG
    exact B.weak (b_nil rfl) hG
  · rintro _ rfl
    rw [Int.toNat_natCast, List.take_length]
    refine b_freeze 2 rfl ?_
    exact b_cons (s_ret (e_var 2) (fun M v r => r))
end

def mazeSizesM (n : Int) (e : Int) : List Int :=
  ((((([2 * n] ++ (List.replicate n.toNat [10]).flatten) ++ (List.replicate n.toNat [2 * e + 2]).flatten) ++ (List.replicate n.toNat [5]).flatten) ++ (List.replicate n.toNat [n]).flatten) ++ (List.replicate (n * e).toNat [12 * (n + 3)]).flatten)
def sp_law_maze_sizes (K : Fg) : Sp := spG K (fun i : Int × Int => [.vl tI i.1, .vl tI i.2]) (fun i => i = (40, 4)) (tLst tI) (fun i => mazeSizesM i.1 i.2)
structure MazeRow (row : List Int) : Prop where
  len : row.length = 321
  h0 : 0 ≤ ix row 0 ∧ ix row 0 < 80
  form : ∀ k : Int, 0 ≤ k → k < 40 → 0 ≤ ix row (1 + k) ∧ ix row (1 + k) < 10
  size : ∀ k : Int, 0 ≤ k → k < 40 → 0 ≤ ix row (1 + 40 + k) ∧ ix row (1 + 40 + k) < 10
theorem digits_maze (c : Int) : MazeRow (digitsM c (mazeSizesM 40 4)) := by
  have p := dig_good c (mazeSizesM 40 4) (by decide)
  have hl := digits_len c (mazeSizesM 40 4)
  have hk : (mazeSizesM 40 4).length = 321 := by decide
  rw [hk] at hl
  have q : ∀ k : Nat, k < 40 → ix (mazeSizesM 40 4) (1 + (k : Int)) = 10 ∧ ix (mazeSizesM 40 4) (1 + 40 + (k : Int)) = 10 := by decide
  refine ⟨hl, ix_paired p (i := 0) (by omega) (by omega), fun k h0 h1 => ?_, fun k h0 h1 => ?_⟩
  · obtain ⟨k, rfl⟩ : ∃ j : Nat, k = (j : Int) := ⟨k.toNat, by omega⟩
    have := ix_paired p (i := 1 + (k : Int)) (by omega) (by omega)
    rw [(q k (by omega)).1] at this; exact this
  · obtain ⟨k, rfl⟩ : ∃ j : Nat, k = (j : Int) := ⟨k.toNat, by omega⟩
    have := ix_paired p (i := 1 + 40 + (k : Int)) (by omega) (by omega)
    rw [(q k (by omega)).2] at this; exact this
section
variable {P : Program} {w : World} {K : Fg} {mg : Str → Option Value} {base : Heap}
theorem sc_law_maze_sizes : FnScope ["n", "e"] ["n", "e"] (defScope s_law_maze_sizes) := ⟨rfl, rfl, rfl, by decide +kernel, rfl, by decide +kernel, by decide +kernel⟩
theorem ok_law_maze_sizes {f : Addr} {fd : FuncData} (F : Fun K "_law_maze_sizes" "_law_maze_sizes" s_law_maze_sizes f fd) (b : Bi mg)  : FnOk P w K mg base CX0 1 f fd ["n", "e"] (sp_law_maze_sizes K) := by
  refine fn_ok F sc_law_maze_sizes 0 rfl (fun _ => rfl) (fun cdv A outer s H E hr i hp => ?_)
  subst hp
  exact b_cons (s_ret (EL.toE (el_cat (EL.toE (el_cat (EL.toE (el_cat (EL.toE (el_cat (EL.toE (el_cat (EL.toE (el_lst (eh_cons (e_mulL e_int (e_var 0) (by decide)) eh_nil))) (EL.toE (el_rep (EL.toE (el_lst (eh_cons e_int eh_nil))) (e_var 0) (by decide) (by decide))) (by decide))) (EL.toE (el_rep (EL.toE (el_lst (eh_cons (e_add (e_mulL e_int (e_var 1) (by decide)) e_int) eh_nil))) (e_var 0) (by decide) (by decide))) (by decide))) (EL.toE (el_rep (EL.toE (el_lst (eh_cons e_int eh_nil))) (e_var 0) (by decide) (by decide))) (by decide))) (EL.toE (el_rep (EL.toE (el_lst (eh_cons (e_var 0) eh_nil))) (e_var 0) (by decide) (by decide))) (by decide))) (EL.toE (el_rep (EL.toE (el_lst (eh_cons (e_mulL e_int (e_add (e_var 0) e_int) (by decide)) eh_nil))) (e_mulL (e_var 0) (e_var 1) (by decide)) (by decide) (by decide))) (by decide))) (fun M v r => ret_is r rfl))
end

def branchM (digit : Int) (k : Int) (many : Int) : Int :=
  let way := (digit % 12)
  let rest := (digit / 12)
  if ((decide (way = 0)) || (decide (k = (many - 1)))) = true then ((-1) - (rest % 3)) else
  if (decide (way < 9)) = true then ((k + 1) + (rest % (if ((many - 1) - k) < 3 then ((many - 1) - k) else 3))) else
  ((k + 1) + (rest % ((many - 1) - k)))
def sp_law_branch (K : Fg) : Sp := spG K (fun i : Int × Int × Int => [.vl tI i.1, .vl tI i.2.1, .vl tI i.2.2]) (fun i => (0 ≤ i.2.1 ∧ i.2.1 < i.2.2) ∧ i.2.2 ≤ 1000) tI (fun i => branchM i.1 i.2.1 i.2.2)
theorem branch_t (digit k many : Int) (h0 : 0 ≤ k) (h1 : k < many) : -3 ≤ branchM digit k many ∧ branchM digit k many < many := by
  unfold branchM
  dsimp only
  generalize digit % 12 = way
  generalize digit / 12 = rest
  split
  · omega
  rename_i hn
  simp only [Bool.or_eq_true, decide_eq_true_eq, not_or] at hn
  split
  · have hm : 0 < (if many - 1 - k < 3 then many - 1 - k else 3) ∧ (if many - 1 - k < 3 then many - 1 - k else 3) ≤ many - 1 - k := by split <;> omega
    generalize (if many - 1 - k < 3 then many - 1 - k else 3) = q at hm
    have a1 := Int.emod_nonneg rest (show q ≠ 0 by omega)
    have a2 := Int.emod_lt_of_pos rest hm.1
    omega
  · have a1 := Int.emod_nonneg rest (show many - 1 - k ≠ 0 by omega)
    have a2 := Int.emod_lt_of_pos rest (show 0 < many - 1 - k by omega)
    omega
section
variable {P : Program} {w : World} {K : Fg} {mg : Str → Option Value} {base : Heap}
theorem sc_law_branch : FnScope ["digit", "k", "many", "way", "rest"] ["digit", "k", "many"] (defScope s_law_branch) := ⟨rfl, rfl, rfl, by decide +kernel, rfl, by decide +kernel, by decide +kernel⟩
theorem ok_law_branch {f : Addr} {fd : FuncData} (F : Fun K "_law_branch" "_law_branch" s_law_branch f fd) (b : Bi mg)  : FnOk P w K mg base CX0 1 f fd ["digit", "k", "many"] (sp_law_branch K) := by
  refine fn_ok F sc_law_branch 2 rfl (fun _ => rfl) (fun cdv A outer s H E hr ⟨digit, k, many⟩ hp => ?_)
  dsimp only at hp ⊢
  refine b_cons (s_set 3 (e_mod (e_intI b.int (e_var 0)) e_int (by first | decide | omega)) ?_ sc_law_branch.nd)
  refine b_cons (s_set 4 (e_div (e_intI b.int (e_var 0)) e_int (by first | decide | omega)) ?_ sc_law_branch.nd)
  refine b_cons (s_if (TW.toT (w_or (t_cv (e_var 3) e_int cv_eqI) (fun h => (w_or1 (t_cv (e_var 1) (e_sub (e_var 2) e_int) cv_eqI))))) (fun h1 => ?_) (fun h1 => ?_))
  · have h1p := h1; try simp only [Bool.and_eq_true, Bool.or_eq_true, Bool.and_eq_false_iff, Bool.or_eq_false_iff, Bool.not_eq_true', Bool.not_eq_false', decide_eq_true_eq, decide_eq_false_iff_not] at h1p
    refine b_cons (s_ret (e_sub (e_neg e_int) (e_mod (e_intI b.int (e_var 4)) e_int (by first | decide | omega))) (fun M v r => ?_))
    exact ret_is r (by unfold branchM; dsimp only; rw [if_pos h1])
  · have h1p := h1; try simp only [Bool.and_eq_true, Bool.or_eq_true, Bool.and_eq_false_iff, Bool.or_eq_false_iff, Bool.not_eq_true', Bool.not_eq_false', decide_eq_true_eq, decide_eq_false_iff_not] at h1p
    refine b_nil ?_
    refine b_cons (s_if (t_cv (e_var 3) e_int cv_lt) (fun h2 => ?_) (fun h2 => ?_))
    · have h2p := h2; try simp only [Bool.and_eq_true, Bool.or_eq_true, Bool.and_eq_false_iff, Bool.or_eq_false_iff, Bool.not_eq_true', Bool.not_eq_false', decide_eq_true_eq, decide_eq_false_iff_not] at h2p
      refine b_cons (s_ret (e_add (e_add (e_var 1) e_int) (e_mod (e_intI b.int (e_var 4)) (e_min rfl b.min e_int (e_sub (e_sub (e_var 2) e_int) (e_var 1))) (by split <;> omega))) (fun M v r => ?_))
      exact ret_is r (by unfold branchM; dsimp only; rw [if_neg (nt h1), if_pos h2])
    · have h2p := h2; try simp only [Bool.and_eq_true, Bool.or_eq_true, Bool.and_eq_false_iff, Bool.or_eq_false_iff, Bool.not_eq_true', Bool.not_eq_false', decide_eq_true_eq, decide_eq_false_iff_not] at h2p
      refine b_nil ?_
      refine b_cons (s_ret (e_add (e_add (e_var 1) e_int) (e_mod (e_intI b.int (e_var 4)) (e_sub (e_sub (e_var 2) e_int) (e_var 1)) (by first | decide | omega))) (fun M v r => ?_))
      exact ret_is r (by unfold branchM; dsimp only; rw [if_neg (nt h1), if_neg (nt h2)])
end

def sp_law_maze (K : Fg) : Sp := spE K (fun i : List Int × Int × Int => [.vl (tLst tI) i.1, .vl tI i.2.1, .vl tI i.2.2]) (fun i => i.2 = (40, 4) ∧ MazeRow i.1) (tTup (tTup tI)) (fun i y => Good y 40 6)
section
variable {P : Program} {w : World} {K : Fg} {mg : Str → Option Value} {base : Heap}
theorem sc_law_maze : FnScope ["row", "n", "e", "many", "kinds", "k", "form", "size", "at", "told", "j", "more", "place"] ["row", "n", "e"] (defScope s_law_maze) := ⟨rfl, rfl, rfl, by decide +kernel, rfl, by decide +kernel, by decide +kernel⟩
theorem ok_law_maze {f : Addr} {fd : FuncData} (F : Fun K "_law_maze" "_law_maze" s_law_maze f fd) (b : Bi mg) (C_law_branch : Fn P w K mg base CX0 1 "_law_branch" ["digit", "k", "many"] (sp_law_branch K)) : FnOk P w K mg base CX0 2 f fd ["row", "n", "e"] (sp_law_maze K) := by
  refine fn_okE F sc_law_maze 10 rfl (fun _ => rfl) (fun cdv A outer s H E hr ⟨row, ne⟩ hp => ?_)
  dsimp only at hp ⊢
  obtain ⟨rfl, hR⟩ := hp
  have hl := hR.len
  have h0 := hR.h0
  refine b_cons (s_set 3 (e_add e_int (e_div (e_intI b.int (e_ixL (e_var 0) e_int (atI_ix (by omega) (by omega)))) e_int (by decide))) ?_ sc_law_maze.nd)
  have hm : 1 ≤ 1 + ix row 0 / 2 ∧ 1 + ix row 0 / 2 ≤ 40 := by omega
  generalize 1 + ix row 0 / 2 = many at hm ⊢
  refine b_cons (s_own 4 (el_lst (s := tTup tI) eh_nil) ?_ sc_law_maze.nd)
  refine b_cons (s_forR 5 (fun m G' => ∃ ks : List (List Int), (ks.length = m ∧ ∀ r ∈ ks, rowOk many 6 r) ∧ G' = [.vl (tLst tI) row, .vl tI 40, .vl tI 4, .vl tI many, .ow (tTup tI) ks, .un, .un, .un, .un, .un, .un, .un, .un]) _ b.range (e_var 3) (by omega) (Sub.refl _) ⟨[], ⟨rfl, fun r h => by cases h⟩, rfl⟩ ?_ ?_ sc_law_maze.nd rfl)
  · rintro k _ hk ⟨ks, ⟨hkl, hks⟩, rfl⟩
    have hf := hR.form (k : Int) (by omega) (by omega)
    have hsz := hR.size (k : Int) (by omega) (by omega)
    refine b_cons (s_set 6 (e_ixL (e_var 0) (e_add e_int (e_var 5)) (atI_ix (by omega) (by omega))) ?_ sc_law_maze.nd)
    refine b_cons (s_set 7 (e_ixL (e_var 0) (e_add (e_add e_int (e_var 1)) (e_var 5)) (atI_ix (by omega) (by omega))) ?_ sc_law_maze.nd)
    generalize ix row (1 + (k : Int)) = form at hf ⊢
    generalize ix row (1 + 40 + (k : Int)) = size at hsz ⊢
    refine b_cons (s_ifSet 7 rfl (t_cv (e_var 7) (e_var 2) cv_gt) (fun h => e_add e_int (e_mod (e_intI b.int (e_var 7)) e_int (by decide))) ?_ sc_law_maze.nd)
    have hs2 : 0 ≤ (if decide (4 < size) = true then 1 + size % 2 else size) ∧ (if decide (4 < size) = true then 1 + size % 2 else size) ≤ 4 := by
      split
      · omega
      · rename_i h; have h := of_decide_eq_false (Bool.eq_false_iff.mpr h); omega
    generalize (if decide (4 < size) = true then 1 + size % 2 else size) = sz at hs2 ⊢
    refine b_cons (s_set 8 (e_add (e_add e_int (e_mulL e_int (e_var 1) (by decide))) (e_mulL (e_var 5) (e_var 2) (by omega))) ?_ sc_law_maze.nd)
    refine b_cut (fun G' => ∃ T : List Int, ((T.length : Int) ≤ 4 ∧ ∀ t ∈ T, -3 ≤ t ∧ t < many) ∧ G' = [.vl (tLst tI) row, .vl tI 40, .vl tI 4, .vl tI many, .ow (tTup tI) ks, .vl tI (k : Int), .vl tI form, .vl tI sz, .vl tI (1 + 4 * 40 + (k : Int) * 4), .vl (tLst tI) T, .un, .un, .un]) (s_if (t_cv (e_var 6) e_int cv_eqI) (fun h => ?_) (fun h => ?_)) ?_
    · refine b_cons (s_lc 9 (lc_R (f := fun j : Nat => -2 - ix row (1 + 4 * 40 + (k : Int) * 4 + (j : Int)) % 2) (own := [("j", 10)]) b.range (e_mod (e_intI b.int (e_var 7)) e_int (by decide)) (by omega) 10 (fun s0 H C cl fp j hj => (e_sub (e_neg e_int) (e_mod (e_intI b.int (e_ixL (e_var 0) (e_add (e_var 8) (e_var 10)) (atI_ix (by omega) (by omega)))) e_int (by decide)))) (blkOk_by (N := ["row", "n", "e", "many", "kinds", "k", "form", "size", "at", "told", "j", "more", "place"]) (sc := defScope s_law_maze) (by decide +kernel)) (fun _ _ _ _ _ => pg_name sc_law_maze.nd rfl (by first | exact Or.inl rfl | exact Or.inr rfl))) ?_ rfl sc_law_maze.nd)
      refine b_freeze 9 rfl ?_
      refine b_nil ⟨_, ⟨?_, fun t ht => ?_⟩, rfl⟩
      · rw [List.length_map, List.length_range]; omega
      · obtain ⟨j, _, rfl⟩ := List.mem_map.mp ht
        omega
    · refine b_cons (s_lc 9 (lc_R (f := fun j : Nat => branchM (ix row (1 + 4 * 40 + (k : Int) * 4 + (j : Int))) (k : Int) many) (own := [("j", 10)]) b.range (e_var 7) (by omega) 10 (fun s0 H C cl fp j hj => (e_call C_law_branch (hr.mono (by decide)) (ix row (1 + 4 * 40 + (k : Int) * 4 + (j : Int)), (k : Int), many) (ea_cons (e_ixL (e_var 0) (e_add (e_var 8) (e_var 10)) (atI_ix (by omega) (by omega))) (ea_cons (e_var 5) (ea_cons (e_var 3) ea_nil))) (show (0 ≤ (k : Int) ∧ (k : Int) < many) ∧ many ≤ 1000 from by omega))) (blkOk_by (N := ["row", "n", "e", "many", "kinds", "k", "form", "size", "at", "told", "j", "more", "place"]) (sc := defScope s_law_maze) (by decide +kernel)) (fun _ _ _ _ _ => pg_name sc_law_maze.nd rfl (by first | exact Or.inl rfl | exact Or.inr rfl))) ?_ rfl sc_law_maze.nd)
      refine b_freeze 9 rfl ?_
      refine b_nil ⟨_, ⟨?_, fun t ht => ?_⟩, rfl⟩
      · rw [List.length_map, List.length_range]; omega
      · obtain ⟨j, _, rfl⟩ := List.mem_map.mp ht
        exact branch_t _ _ _ (by omega) hk
    rintro _ ⟨T, ⟨hT1, hT2⟩, rfl⟩
    refine b_cons (s_ifSet 6 rfl (TW.toT (w_and (t_cv (e_mod (e_intI b.int (e_ixL (e_var 0) e_int (atI_ix (by omega) (by omega)))) e_int (by decide)) e_int cv_eqI) (fun _ => (w_and (t_cv (e_mulL e_int (e_var 5) (by decide)) (e_mulL e_int (e_var 3) (by decide)) cv_lt) (fun _ => (w_and1 (t_cv (e_var 6) e_int cv_lt))))))) (fun h => e_int) ?_ sc_law_maze.nd)
    generalize (if (decide (ix row 0 % 2 = 1) && (decide (3 * (k : Int) < 2 * many) && decide (form < 8))) = true then 0 else form) = form2
    refine b_cons (s_own 11 (el_lst (s := tI) eh_nil) ?_ sc_law_maze.nd)
    refine b_freeze 11 rfl ?_
    refine b_cut (fun G' => ∃ M2 : List Int, ((M2.length : Int) ≤ 2 ∧ ∀ t ∈ M2, -3 ≤ t ∧ t < many) ∧ G' = [.vl (tLst tI) row, .vl tI 40, .vl tI 4, .vl tI many, .ow (tTup tI) ks, .vl tI (k : Int), .vl tI form2, .vl tI sz, .vl tI (1 + 4 * 40 + (k : Int) * 4), .vl (tLst tI) T, .un, .vl (tLst tI) M2, .un]) (s_if (t_cv (e_var 6) (EL.toE (el_lst (eh_cons e_int (eh_cons e_int (eh_cons e_int (eh_cons e_int eh_nil)))))) cv_inL) (fun h => ?_) (fun h => ?_)) ?_
    · have h := of_decide_eq_true h
      simp only [List.mem_cons, List.not_mem_nil, or_false] at h
      have a1 := Int.emod_nonneg (ix row (1 + 3 * 40 + (k : Int))) (show (k : Int) + 1 ≠ 0 by omega)
      have a2 := Int.emod_lt_of_pos (ix row (1 + 3 * 40 + (k : Int))) (show 0 < (k : Int) + 1 by omega)
      refine b_cons (s_set 11 (e_ixL (xs := [[(k : Int)], [(k : Int), (k : Int)], [ix row (1 + 3 * 40 + (k : Int)) % ((k : Int) + 1)], [], [-1]]) (EL.toE (el_lst (eh_cons (EL.toE (el_lst (eh_cons (e_var 5) eh_nil))) (eh_cons (EL.toE (el_lst (eh_cons (e_var 5) (eh_cons (e_var 5) eh_nil)))) (eh_cons (EL.toE (el_lst (eh_cons (e_mod (e_intI b.int (e_ixL (e_var 0) (e_add (e_add e_int (e_mulL e_int (e_var 1) (by decide))) (e_var 5)) (atI_ix (by omega) (by omega)))) (e_add (e_var 5) e_int) (by omega)) eh_nil))) (eh_cons (EL.toE (el_lst eh_nil)) (eh_cons (EL.toE (el_lst (eh_cons (e_neg e_int) eh_nil))) eh_nil))))))) (e_sub (e_var 6) e_int) (atI_ix (by simp only [List.length_cons, List.length_nil]; omega) (by simp only [List.length_cons, List.length_nil]; omega))) ?_ sc_law_maze.nd)
      generalize ix row (1 + 3 * 40 + (k : Int)) % ((k : Int) + 1) = x at a1 a2 ⊢
      refine b_nil ⟨_, ?_, rfl⟩
      rcases h with rfl | rfl | rfl | rfl
      · rw [show ix [[(k : Int)], [(k : Int), (k : Int)], [x], [], [-1]] (5 - 5) = [(k : Int)] from rfl]
        exact ⟨by simp, fun t ht => by rw [List.mem_singleton.mp ht]; omega⟩
      · rw [show ix [[(k : Int)], [(k : Int), (k : Int)], [x], [], [-1]] (6 - 5) = [(k : Int), (k : Int)] from rfl]
        exact ⟨by simp, fun t ht => by simp at ht; omega⟩
      · rw [show ix [[(k : Int)], [(k : Int), (k : Int)], [x], [], [-1]] (7 - 5) = [x] from rfl]
        exact ⟨by simp, fun t ht => by rw [List.mem_singleton.mp ht]; omega⟩
      · rw [show ix [[(k : Int)], [(k : Int), (k : Int)], [x], [], [-1]] (9 - 5) = [-1] from rfl]
        exact ⟨by simp, fun t ht => by rw [List.mem_singleton.mp ht]; omega⟩
    · exact b_nil ⟨[], ⟨by simp, fun t ht => by cases ht⟩, rfl⟩
    rintro _ ⟨M2, ⟨hM1, hM2⟩, rfl⟩
    have a1 := Int.emod_nonneg (ix row (1 + 2 * 40 + (k : Int))) (show (T.length : Int) + 1 ≠ 0 by omega)
    have a2 := Int.emod_lt_of_pos (ix row (1 + 2 * 40 + (k : Int))) (show 0 < (T.length : Int) + 1 by omega)
    refine b_cons (s_set 12 (e_mod (e_intI b.int (e_ixL (e_var 0) (e_add (e_add e_int (e_mulL e_int (e_var 1) (by decide))) (e_var 5)) (atI_ix (by omega) (by omega)))) (e_add (e_lenL b.len (e_var 9)) e_int) (by omega)) ?_ sc_law_maze.nd)
    generalize ix row (1 + 2 * 40 + (k : Int)) % ((T.length : Int) + 1) = place at a1 a2 ⊢
    have c1 := cut_upto T a1
    have c2 := cut_from T a1
    refine b_cons (s_app 4 rfl (e_tupL b.tuple (EL.toE (el_cat (EL.toE (el_cat (EL.toE (el_slice (e_var 9) eo_none (eo_some (e_var 12)))) (e_var 11) (by rw [c1, List.length_take]; omega))) (EL.toE (el_slice (e_var 9) (eo_some (e_var 12)) eo_none)) (by rw [List.length_append, c1, c2, List.length_take, List.length_drop]; omega)))) (by omega) ?_)
    refine B.weak (b_nil ⟨_, ⟨by rw [List.length_append, List.length_singleton, hkl], fun r hr => ?_⟩, rfl⟩) (.same (.same (.same (.same (.same (.un (.un (.un (.un (.un (.un (.un (.un .nil)))))))))))))
    rcases List.mem_append.mp hr with z | z
    · exact hks r z
    · rw [List.mem_singleton.mp z, c1, c2]
      refine ⟨by rw [List.length_append, List.length_append, List.length_take, List.length_drop]; omega, fun t ht => ?_⟩
      rcases List.mem_append.mp ht with y | y
      · rcases List.mem_append.mp y with y | y
        · exact hT2 t (List.mem_of_mem_take y)
        · exact hM2 t y
      · exact hT2 t (List.mem_of_mem_drop y)
  · rintro _ ⟨ks, ⟨hkl, hks⟩, rfl⟩
    refine b_freeze 4 rfl ?_
    refine b_cons (s_ret (e_tupL b.tuple (e_var 4)) (fun M v r => ⟨_, ?_, r⟩))
    refine ⟨by omega, by omega, fun r hr => ?_⟩
    have := hks r hr
    exact ⟨this.1, fun t ht => by have := this.2 t ht; omega⟩
end

noncomputable def liveK (kinds : List (List Int)) : List Int := ((List.range kinds.length).filter fun k : Nat => ix (liveM kinds) (k : Int)).map fun k : Nat => (k : Int)
noncomputable def splive_kinds (K : Fg) (C : Addr) : Sp := spG K (fun i : List (List Int) => [.vl (tBook C) i]) (fun i => Good i 1000 1000) (tTup tI) (fun i => liveK i)
theorem liveM_len (kinds : List (List Int)) : (liveM kinds).length = kinds.length := by unfold liveM; simp
section
variable {P : Program} {w : World} {K : Fg} {mg : Str → Option Value} {base : Heap}
theorem sc_live_kinds : FnScope ["book", "live", "kind"] ["book"] (defScope slive_kinds) := ⟨rfl, rfl, rfl, by decide +kernel, rfl, by decide +kernel, by decide +kernel⟩
theorem oklive_kinds {C : Addr} (hC : Cls K C) (hna : NoAttr K C "kinds") {f : Addr} {fd : FuncData} (F : Fun K "live_kinds" "live_kinds" slive_kinds f fd) (b : Bi mg) (Clive_flags : Fn P w K mg base CX0 5 "live_flags" ["kinds"] (splive_flags K)) : FnOk P w K mg base CX0 6 f fd ["book"] (splive_kinds K C) := by
  refine fn_ok F sc_live_kinds 2 rfl (fun _ => rfl) (fun cdv A outer s H E hr book hg => ?_)
  have hlen := hg.len
  have hl := liveM_len book
  refine b_cons (s_set 1 (e_call Clive_flags (hr.mono (by decide)) book (ea_cons (e_kinds (e_var 0) hC hna) ea_nil) hg) ?_ sc_live_kinds.nd)
  refine b_cons (s_ret (e_tupL b.tuple (EL.toE (el_lc (lc_RF (f := fun k : Nat => (k : Int)) (g := fun k : Nat => ix (liveM book) (k : Int)) (own := [("kind", 2)]) b.range (e_lenT b.len (e_var 1)) (by omega) 2 (fun s0 H C cl fp m hx => (t_val (e_ixT (e_var 1) (e_var 2) (atI_ix (by omega) (by omega))))) (fun s0 H C cl fp m hx hd => (e_var 2)) (blkOk_by (N := ["book", "live", "kind"]) (sc := defScope slive_kinds) (by decide +kernel)) (fun _ _ _ _ _ => pg_name sc_live_kinds.nd rfl (by first | exact Or.inl rfl | exact Or.inr rfl))) rfl sc_live_kinds.nd))) (fun M v r => ret_is r ?_))
  unfold liveK
  rw [← hl, Int.toNat_natCast]
end

theorem cut_len {α : Type} (xs : List α) (a b : Int) (h0 : 0 ≤ a) (hab : a ≤ b) : ((cut xs (some a) (some b)).length : Int) ≤ b - a := by
  unfold cut
  rw [List.length_take, List.length_drop]
  have e1 : HT.sIx xs.length 0 (some a) = min a.toNat xs.length := if_neg (by omega)
  have e2 : HT.sIx xs.length xs.length (some b) = min b.toNat xs.length := if_neg (by omega)
  rw [e1, e2]; omega
def sp_law_broad (K : Fg) : Sp := spE K (fun i : List (List Int) × List Int × Int => [.vl (tTup (tTup tI)) i.1, .vl (tLst tI) i.2.1, .vl tI i.2.2]) (fun i => Good i.1 40 20 ∧ (2 ≤ i.2.1.length ∧ i.2.1.length ≤ 1000) ∧ 0 ≤ i.2.2 ∧ i.2.2 ≤ 20) (tTup (tTup tI)) (fun i y => Good y 40 20)
section
variable {P : Program} {w : World} {K : Fg} {mg : Str → Option Value} {base : Heap}
theorem sc_law_broad : FnScope ["kinds", "row", "limit", "k", "told", "digit", "t"] ["kinds", "row", "limit"] (defScope s_law_broad) := ⟨rfl, rfl, rfl, by decide +kernel, rfl, by decide +kernel, by decide +kernel⟩
theorem ok_law_broad {f : Addr} {fd : FuncData} (F : Fun K "_law_broad" "_law_broad" s_law_broad f fd) (b : Bi mg) : FnOk P w K mg base CX0 1 f fd ["kinds", "row", "limit"] (sp_law_broad K) := by
  refine fn_okE F sc_law_broad 4 rfl (fun _ => rfl) (fun cdv A outer s H E hr ⟨kinds, row, limit⟩ hp => ?_)
  dsimp only at hp ⊢
  obtain ⟨hg, ⟨r0, r1⟩, l0, l1⟩ := hp
  have hpos := hg.pos
  have hlen := hg.len
  refine b_cons (s_set 3 (e_mod (e_intI b.int (e_ixL (e_var 1) e_int (atI_ix (by omega) (by omega)))) (e_div (e_add (e_lenT b.len (e_var 0)) e_int) e_int (by omega)) (by omega)) ?_ sc_law_broad.nd)
  have a1 := Int.emod_nonneg (ix row 1) (show ((kinds.length : Int) + 1) / 2 ≠ 0 by omega)
  have a2 := Int.emod_lt_of_pos (ix row 1) (show 0 < ((kinds.length : Int) + 1) / 2 by omega)
  generalize ix row 1 % (((kinds.length : Int) + 1) / 2) = k at a1 a2 ⊢
  have hk : k < kinds.length := by omega
  refine b_cons (s_if (t_cv (e_ixL (e_var 1) e_int (atI_ix (by omega) (by omega))) e_int cv_gt) (fun h => ?_) (fun h => b_nil ?_))
  · exact b_cons (s_ret (e_tupT b.tuple (e_var 0)) (fun M v r => ⟨kinds, hg, r⟩))
  · have hrow := hg.row _ (ix_mem (xs := kinds) (i := k) a1 hk)
    refine b_cons (s_own 4 (el_listT b.list (e_ixT (e_var 0) (e_var 3) (atI_ix (by omega) hk))) ?_ sc_law_broad.nd)
    generalize hl0 : (ix kinds k).length = n0 at hrow
    have hmx : 0 ≤ (if limit - (n0 : Int) > 0 then limit - (n0 : Int) else 0) ∧ (n0 : Int) + (if limit - (n0 : Int) > 0 then limit - (n0 : Int) else 0) ≤ 20 := by split <;> omega
    refine b_cons (s_forL 5 (fun m G' => ∃ told : List Int, (told.length = n0 + m ∧ ∀ t ∈ told, -3 ≤ t ∧ t < kinds.length) ∧ G' = [.vl (tTup (tTup tI)) kinds, .vl (tLst tI) row, .vl tI limit, .vl tI k, .ow tI told, .un, .un]) _ (xs := cut row (some 2) (some (2 + (if limit - (n0 : Int) > 0 then limit - (n0 : Int) else 0)))) (by rw [← hl0]; exact EL.toE (el_read 4 rfl imm_I (el_slice (e_var 1) (eo_some e_int) (eo_some (e_add e_int (e_max rfl b.max e_int (e_sub (e_var 2) (e_lenL b.len (e_var 4))))))))) (Sub.refl _) ⟨_, ⟨by omega, hrow.2⟩, rfl⟩ ?_ ?_ sc_law_broad.nd rfl)
    · rintro m d _ hd ⟨told, ⟨htl, hti⟩, rfl⟩
      have b1 := Int.emod_nonneg d (show (kinds.length : Int) + 3 ≠ 0 by omega)
      have b2 := Int.emod_lt_of_pos d (show 0 < (kinds.length : Int) + 3 by omega)
      have c1 := Int.emod_nonneg (d / 50) (show (3 : Int) ≠ 0 by omega)
      have c2 := Int.emod_lt_of_pos (d / 50) (show (0 : Int) < 3 by omega)
      have hml := cut_len row 2 (2 + (if limit - (n0 : Int) > 0 then limit - (n0 : Int) else 0)) (by omega) (by omega)
      have hmm := (List.getElem?_eq_some_iff.mp hd).1
      refine b_cons (s_set 6 (e_sub (e_mod (e_intI b.int (e_var 5)) (e_add (e_lenT b.len (e_var 0)) e_int) (by omega)) e_int) ?_ sc_law_broad.nd)
      refine b_cons (s_app 4 rfl (e_ixL (EL.toE (el_lst (eh_cons (e_var 6) (eh_cons (e_sub (e_neg e_int) (e_mod (e_div (e_intI b.int (e_var 5)) e_int (by omega)) e_int (by omega))) eh_nil)))) (e_intB b.int (e_chain e_int (e_var 6) (e_var 3) cv_le (fun _ => cv_le) (r0 := ⟨_, op_le⟩))) (atI_ix (by split <;> (simp only [List.length_cons, List.length_nil]; omega)) (by split <;> (simp only [List.length_cons, List.length_nil]; omega)))) (by omega) ?_)
      refine B.weak (b_nil ⟨_, ⟨by rw [List.length_append, htl]; simp; omega, fun t ht => ?_⟩, rfl⟩) (.same (.same (.same (.same (.same (.un (.un .nil)))))))
      rcases List.mem_append.mp ht with z | z
      · exact hti t z
      · rw [List.mem_singleton.mp z]
        split
        · rw [ix_getElem (x := -1 - d / 50 % 3) (by omega) rfl]; omega
        · rw [ix_getElem (x := d % ((kinds.length : Int) + 3) - 3) (by omega) rfl]; omega
    · rintro _ ⟨told, ⟨htl, hti⟩, rfl⟩
      have hml := cut_len row 2 (2 + (if limit - (n0 : Int) > 0 then limit - (n0 : Int) else 0)) (by omega) (by omega)
      have e1 := cut_upto kinds a1
      have e2 := cut_from kinds (show 0 ≤ k + 1 by omega)
      refine b_cons (s_ret (e_read 4 rfl (imm_T (imm_T imm_I)) (e_catA (e_catA (e_tupT b.tuple (e_sliceT (e_var 0) eo_none (eo_some (e_var 3)))) (e_tup (eh_cons (e_tupL b.tuple (e_var 4)) eh_nil)) (by rw [e1, List.length_take]; simp only [List.length_cons, List.length_nil]; omega)) (e_tupT b.tuple (e_sliceT (e_var 0) (eo_some (e_add (e_var 3) e_int)) eo_none)) (by rw [e1, e2, List.length_append, List.length_take, List.length_drop]; simp only [List.length_cons, List.length_nil]; omega))) (fun M v r => ⟨_, ?_, r⟩))
      rw [e1, e2]
      have hl : (kinds.take k.toNat ++ [told] ++ kinds.drop (k + 1).toNat).length = kinds.length := by
        simp only [List.length_append, List.length_take, List.length_drop, List.length_cons, List.length_nil]; omega
      refine ⟨by rw [hl]; exact hpos, by rw [hl]; exact hlen, fun r hr' => ?_⟩
      rw [hl]
      rcases List.mem_append.mp hr' with z | z
      · rcases List.mem_append.mp z with z | z
        · exact hg.row r (List.mem_of_mem_take z)
        · rw [List.mem_singleton.mp z]; exact ⟨by omega, hti⟩
      · exact hg.row r (List.mem_of_mem_drop z)
end

def namedM (t : Int) (place : List Int) : Int := if decide (t < 0) = true then t else ix place t
def sp_law_named (K : Fg) : Sp := spG K (fun i : Int × List Int => [.vl tI i.1, .vl (tLst tI) i.2]) (fun i => i.1 < i.2.length) tI (fun i => namedM i.1 i.2)
section
variable {P : Program} {w : World} {K : Fg} {mg : Str → Option Value} {base : Heap}
theorem sc_law_named : FnScope ["t", "place"] ["t", "place"] (defScope s_law_named) := ⟨rfl, rfl, rfl, by decide +kernel, rfl, by decide +kernel, by decide +kernel⟩
theorem ok_law_named {f : Addr} {fd : FuncData} (F : Fun K "_law_named" "_law_named" s_law_named f fd) (b : Bi mg)  : FnOk P w K mg base CX0 1 f fd ["t", "place"] (sp_law_named K) := by
  refine fn_ok F sc_law_named 0 rfl (fun _ => rfl) (fun cdv A outer s H E hr ⟨t, place⟩ hp => ?_)
  dsimp only at hp ⊢
  refine b_cons (s_if (t_cv (e_var 0) e_int cv_lt) (fun h1 => ?_) (fun h1 => ?_))
  · refine b_cons (s_ret (e_var 0) (fun M v r => ?_))
    exact ret_is r (by unfold namedM; rw [if_pos h1])
  · have h1p := of_decide_eq_false h1
    refine b_nil ?_
    refine b_cons (s_ret (e_ixL (e_var 1) (e_var 0) (atI_ix (by omega) (by omega))) (fun M v r => ?_))
    exact ret_is r (by unfold namedM; rw [if_neg (nt h1)])
end

def sp_law_renumbered (K : Fg) : Sp := spE K (fun i : List (List Int) × List Int => [.vl (tTup (tTup tI)) i.1, .vl (tLst tI) i.2]) (fun i => Good i.1 1000 1000 ∧ i.2.length = i.1.length ∧ inR i.1.length i.2) (tTup (tTup tI)) (fun i y => y.length = i.1.length ∧ ∀ n e : Int, e ≤ 1000 → Good i.1 n e → Good y n e)
section
variable {P : Program} {w : World} {K : Fg} {mg : Str → Option Value} {base : Heap}
theorem sc_law_renumbered : FnScope ["kinds", "order", "place", "k", "t"] ["kinds", "order"] (defScope s_law_renumbered) := ⟨rfl, rfl, rfl, by decide +kernel, rfl, by decide +kernel, by decide +kernel⟩
theorem ok_law_renumbered {f : Addr} {fd : FuncData} (F : Fun K "_law_renumbered" "_law_renumbered" s_law_renumbered f fd) (b : Bi mg) (C_law_named : Fn P w K mg base CX0 1 "_law_named" ["t", "place"] (sp_law_named K)) : FnOk P w K mg base CX0 2 f fd ["kinds", "order"] (sp_law_renumbered K) := by
  refine fn_okE F sc_law_renumbered 3 rfl (fun _ => rfl) (fun cdv A outer s H E hr ⟨kinds, order⟩ hp => ?_)
  dsimp only at hp ⊢
  obtain ⟨hg, hol, hoi⟩ := hp
  have hpos := hg.pos
  have hlen := hg.len
  refine b_cons (s_own 2 (el_rep (EL.toE (el_lst (eh_cons e_int eh_nil))) (e_lenT b.len (e_var 0)) (by omega) (by simp only [List.length_cons, List.length_nil]; omega)) ?_ sc_law_renumbered.nd)
  rw [flat_one, Int.toNat_natCast]
  refine b_cons (s_forR 3 (fun m G' => ∃ place : List Int, (place.length = kinds.length ∧ inR kinds.length place) ∧ G' = [.vl (tTup (tTup tI)) kinds, .vl (tLst tI) order, .ow tI place, .un, .un]) _ b.range (e_lenL b.len (e_var 1)) (by omega) (Sub.refl _) ⟨_, ⟨List.length_replicate, fun t ht => by rw [List.eq_of_mem_replicate ht]; omega⟩, rfl⟩ ?_ ?_ sc_law_renumbered.nd rfl)
  · rintro m _ hm ⟨place, ⟨hpl, hpi⟩, rfl⟩
    have ho := hoi _ (ix_mem (xs := order) (i := (m : Int)) (by omega) (by omega))
    refine b_cons (s_seti 2 (m := (ix order (m : Int)).toNat) rfl (e_var 3) (e_ixL (e_var 1) (e_var 3) (atI_ix (by omega) (by omega))) (ixNp (by omega) (by omega)) ?_)
    refine B.weak (b_nil ⟨_, ⟨by rw [List.length_set]; exact hpl, fun t ht => ?_⟩, rfl⟩) (.same (.same (.same (.un (.un .nil)))))
    rcases List.mem_or_eq_of_mem_set ht with z | z
    · exact hpi t z
    · rw [z]; omega
  · rintro _ ⟨place, ⟨hpl, hpi⟩, rfl⟩
    refine b_freeze 2 rfl ?_
    have hrow : ∀ (j : Nat) (x : Int), order[j]? = some x → ∀ t ∈ ix kinds x, -3 ≤ t ∧ t < kinds.length := fun j x hx t ht => by
      have ho := hoi x (List.mem_of_getElem? hx)
      exact (hg.row _ (ix_mem ho.1 ho.2)).2 t ht
    refine b_cons (s_ret (e_tupL b.tuple (EL.toE (el_lc (lc_L (f := fun x : Int => (ix kinds x).map fun t => namedM t place) (own := [("k", 3)]) (e_var 1) 3 (fun s0 H C cl fp m x hx => (e_tupL b.tuple (EL.toE (el_lc (lc_T (f := fun t => namedM t place) (xs := ix kinds x) (own := [("t", 4)]) (e_ixT (e_var 0) (e_var 3) (atI_ix (by have := hoi x (List.mem_of_getElem? hx); omega) (by have := hoi x (List.mem_of_getElem? hx); omega))) 4 (fun s0 H C cl fp j t ht => e_call C_law_named (hr.mono (by decide)) (t, place) (ea_cons (e_var 4) (ea_cons (e_var 2) ea_nil)) (show t < place.length by have := hrow m x hx t (List.mem_of_getElem? ht); omega)) (blkIn (N := ["kinds", "order", "place", "k", "t"]) (by decide +kernel)) (by have ho := hoi x (List.mem_of_getElem? hx); have := (hg.row _ (ix_mem ho.1 ho.2)).1; omega) (fun _ _ _ _ _ => pg_name sc_law_renumbered.nd rfl (by first | exact Or.inl rfl | exact Or.inr rfl))) rfl sc_law_renumbered.nd)))) (blkOk_by (N := ["kinds", "order", "place", "k", "t"]) (sc := defScope s_law_renumbered) (by decide +kernel)) (by omega) (fun _ _ _ _ _ => pg_name sc_law_renumbered.nd rfl (by first | exact Or.inl rfl | exact Or.inr rfl))) rfl sc_law_renumbered.nd))) (fun M v r => ⟨_, ⟨by rw [List.length_map]; exact hol, fun n e he hge => ?_⟩, r⟩))
    refine ⟨by rw [List.length_map]; omega, by rw [List.length_map, hol]; exact hge.len, fun r hr => ?_⟩
    obtain ⟨x, hx, rfl⟩ := List.mem_map.mp hr
    have ho := hoi x hx
    have hq := hge.row _ (ix_mem ho.1 ho.2)
    refine ⟨by rw [List.length_map]; exact hq.1, fun t ht => ?_⟩
    obtain ⟨u, hu, rfl⟩ := List.mem_map.mp ht
    have := hq.2 u hu
    rw [List.length_map, hol]
    unfold namedM
    split
    · rename_i z; have z := of_decide_eq_true z; omega
    · rename_i z
      simp only [decide_eq_true_eq] at z
      have := hpi _ (ix_mem (xs := place) (i := u) (by omega) (by omega))
      omega
end

def sp_law_order (K : Fg) : Sp := spE K (fun i : List Int × Int => [.vl (tLst tI) i.1, .vl tI i.2]) (fun i => (0 ≤ i.2 ∧ i.2 ≤ 1000) ∧ i.2 ≤ i.1.length) (tLst tI) (fun i y => (y.length : Int) = i.2 ∧ inR i.2 y)
section
variable {P : Program} {w : World} {K : Fg} {mg : Str → Option Value} {base : Heap}
theorem sc_law_order : FnScope ["row", "many", "waiting", "told", "k", "at"] ["row", "many"] (defScope s_law_order) := ⟨rfl, rfl, rfl, by decide +kernel, rfl, by decide +kernel, by decide +kernel⟩
theorem ok_law_order {f : Addr} {fd : FuncData} (F : Fun K "_law_order" "_law_order" s_law_order f fd) (b : Bi mg) : FnOk P w K mg base CX0 1 f fd ["row", "many"] (sp_law_order K) := by
  refine fn_okE F sc_law_order 4 rfl (fun _ => rfl) (fun cdv A outer s H E hr ⟨row, many⟩ hp => ?_)
  dsimp only at hp ⊢
  obtain ⟨⟨h0, h1⟩, h2⟩ := hp
  refine b_cons (s_own 2 (el_listR rfl b.list b.range (e_var 1) (by omega)) ?_ sc_law_order.nd)
  refine b_cons (s_own 3 (el_lst (s := tI) eh_nil) ?_ sc_law_order.nd)
  refine b_cons (s_forR 4 (fun m G' => ∃ ws ts : List Int, (((ws.length : Int) = many - m ∧ inR many ws) ∧ ts.length = m ∧ inR many ts) ∧ G' = [.vl (tLst tI) row, .vl tI many, .ow tI ws, .ow tI ts, .un, .un]) _ b.range (e_var 1) (by omega) (Sub.refl _) ⟨firstN many, [], ⟨⟨by rw [firstN_len]; omega, firstN_in⟩, rfl, fun t h => by cases h⟩, rfl⟩ ?_ ?_ sc_law_order.nd rfl)
  · rintro m _ hm ⟨ws, ts, ⟨⟨hwl, hwi⟩, htl, hti⟩, rfl⟩
    refine b_cons (s_set 5 (e_read 2 rfl imm_I (e_mod (e_intI b.int (e_ixL (e_var 0) (e_var 4) (atI_ix (by omega) (by omega)))) (e_lenL b.len (e_var 2)) (by omega))) ?_ sc_law_order.nd)
    have a1 := Int.emod_nonneg (ix row (m : Int)) (show (ws.length : Int) ≠ 0 by omega)
    have a2 := Int.emod_lt_of_pos (ix row (m : Int)) (show 0 < (ws.length : Int) by omega)
    generalize ix row (m : Int) % (ws.length : Int) = at' at a1 a2 ⊢
    refine b_freeze 2 rfl ?_
    refine b_cons (s_app 3 rfl (e_ixL (e_var 2) (e_var 5) (atI_ix (by omega) (by omega))) (by omega) ?_)
    have c1 := cut_upto ws a1
    have c2 := cut_from ws (show 0 ≤ at' + 1 by omega)
    refine b_cons (s_own 2 (el_cat (EL.toE (el_slice (e_var 2) eo_none (eo_some (e_var 5)))) (EL.toE (el_slice (e_var 2) (eo_some (e_add (e_var 5) e_int)) eo_none)) (by rw [c1, c2, List.length_take, List.length_drop]; omega)) ?_ sc_law_order.nd)
    rw [c1, c2]
    refine B.weak (b_nil ⟨_, _, ⟨⟨by rw [List.length_append, List.length_take, List.length_drop]; omega, fun t ht => ?_⟩, by rw [List.length_append]; simp; omega, fun t ht => ?_⟩, rfl⟩) (.same (.same (.same (.same (.un (.un .nil))))))
    · rcases List.mem_append.mp ht with z | z
      · exact hwi t (List.mem_of_mem_take z)
      · exact hwi t (List.mem_of_mem_drop z)
    · rcases List.mem_append.mp ht with z | z
      · exact hti t z
      · rw [List.mem_singleton.mp z]; exact hwi _ (ix_mem (by omega) (by omega))
  · rintro _ ⟨ws, ts, ⟨⟨hwl, hwi⟩, htl, hti⟩, rfl⟩
    refine b_freeze 3 rfl ?_
    exact b_cons (s_ret (e_var 3) (fun M v r => ⟨ts, ⟨by omega, hti⟩, r⟩))
end

def pickedM (many : Int) (row : List Int) : List Int := if decide (many < 13) = true then firstN many else row.map fun d => d % many
theorem picked_in {many : Int} {row : List Int} (h : 1 ≤ many) : inR many (pickedM many row) := by
  unfold pickedM
  split
  · exact firstN_in
  · intro t ht
    obtain ⟨d, _, rfl⟩ := List.mem_map.mp ht
    exact ⟨Int.emod_nonneg _ (by omega), Int.emod_lt_of_pos _ (by omega)⟩
theorem picked_len {many : Int} {row : List Int} (h : row.length ≤ 1000) : (pickedM many row).length ≤ 1000 := by
  unfold pickedM
  split
  · rename_i c; have c := of_decide_eq_true c; rw [firstN_len]; omega
  · rw [List.length_map]; exact h
def sp_law_picked (K : Fg) : Sp := spG K (fun i : Int × List Int => [.vl tI i.1, .vl (tLst tI) i.2]) (fun i => 1 ≤ i.1 ∧ i.2.length ≤ 1000) (tLst tI) (fun i => pickedM i.1 i.2)
section
variable {P : Program} {w : World} {K : Fg} {mg : Str → Option Value} {base : Heap}
theorem sc_law_picked : FnScope ["many", "row", "digit"] ["many", "row"] (defScope s_law_picked) := ⟨rfl, rfl, rfl, by decide +kernel, rfl, by decide +kernel, by decide +kernel⟩
theorem ok_law_picked {f : Addr} {fd : FuncData} (F : Fun K "_law_picked" "_law_picked" s_law_picked f fd) (b : Bi mg) : FnOk P w K mg base CX0 1 f fd ["many", "row"] (sp_law_picked K) := by
  refine fn_ok F sc_law_picked 1 rfl (fun _ => rfl) (fun cdv A outer s H E hr ⟨many, row⟩ hp => ?_)
  dsimp only at hp ⊢
  obtain ⟨h0, h1⟩ := hp
  refine b_cons (s_if (t_cv (e_var 0) e_int cv_lt) (fun h => ?_) (fun h => b_nil ?_))
  · have h' := of_decide_eq_true h
    exact b_cons (s_ret (EL.toE (el_listR rfl b.list b.range (e_var 0) (by omega))) (fun M v r => ret_is r (by unfold pickedM; rw [if_pos h])))
  · exact b_cons (s_ret (EL.toE (el_lc (lc_L (f := fun d : Int => d % many) (own := [("digit", 2)]) (e_var 1) 2 (fun s0 H C cl fp m x hx => e_mod (e_intI b.int (e_var 2)) (e_var 0) (by omega)) (blkOk_by (N := ["many", "row", "digit"]) (sc := defScope s_law_picked) (by decide +kernel)) (by omega) (fun _ _ _ _ _ => pg_name sc_law_picked.nd rfl (by first | exact Or.inl rfl | exact Or.inr rfl))) rfl sc_law_picked.nd)) (fun M v r => ret_is r (by unfold pickedM; rw [if_neg (nt h)])))
end

section
variable {P : Program} {w : World} {K : Fg} {mg : Str → Option Value} {base : Heap}
theorem scFrozen : FnScope ["value", "item"] ["value"] (defScope sfrozen) := ⟨rfl, rfl, rfl, by decide +kernel, rfl, by decide +kernel, by decide +kernel⟩
theorem st_frozen {f : Addr} {fd : FuncData} (F : Fun K "frozen" "frozen" sfrozen f fd) (b : Bi mg) (hm : mg "frozen" = some (.ref f)) (hb : Binds K fd ["value"] []) (n : Nat) (ih : ∀ m, n = m + 1 → FnOk P w K mg base CX0 (m + 1) f fd ["value"] (spFz K m)) : FnOk P w K mg base CX0 (n + 1) f fd ["value"] (spFz K n) := by
    refine fn_ok F scFrozen 1 rfl (fun _ => rfl) (fun cdv A outer s H E hr d hp => ?_)
    cases d with
    | list ds =>
      obtain ⟨m, rfl⟩ : ∃ m, n = m + 1 := by
        cases n with
        | zero => exact (show False from hp).elim
        | succ m => exact ⟨m, rfl⟩
      obtain ⟨hz, hf⟩ := hp
      refine b_cons (s_if (t_val (e_isD2 (dd := .list ds) (d1 := true) (d2 := false) b.isinstance (e_var 0) (e_Tlist b.list) (e_Ttuple b.tuple) (fun _ _ r => r) kb_list_list kb_list_tuple)) (fun _ => ?_) (fun h => by cases h))
      refine b_cons (s_ret (s := tTup tD) (x := ds.map frz) (e_tupL b.tuple (EL.toE (el_lc (lc_S (s := tD) (t := tD) (own := [("item", 1)]) (xs := ds) ((e_var 0).as (fun M v r => rep_DL r)) 1 (fun s0 H C cl fp m' x hx =>
        e_call ⟨f, fd, hm, F.kp, hb, ih m rfl⟩ hr _ (ea_cons (e_var 1) ea_nil) (hf x (List.mem_of_getElem? hx))) (blkOk_by (N := ["value", "item"]) (sc := defScope sfrozen) (by decide +kernel)) hz (fun _ _ _ _ _ => pg_name scFrozen.nd rfl (Or.inl rfl))) rfl scFrozen.nd))) (fun M v r => ?_))
      show Dp K M v (frz (.list ds))
      rw [frz, frzAll_map]; exact rep_TD r
    | tuple ds =>
      obtain ⟨m, rfl⟩ : ∃ m, n = m + 1 := by
        cases n with
        | zero => exact (show False from hp).elim
        | succ m => exact ⟨m, rfl⟩
      obtain ⟨hz, hf⟩ := hp
      refine b_cons (s_if (t_val (e_isD2 (dd := .tuple ds) (d1 := false) (d2 := true) b.isinstance (e_var 0) (e_Tlist b.list) (e_Ttuple b.tuple) (fun _ _ r => r) kb_tuple_list kb_tuple_tuple)) (fun _ => ?_) (fun h => by cases h))
      refine b_cons (s_ret (s := tTup tD) (x := ds.map frz) (e_tupL b.tuple (EL.toE (el_lc (lc_T (s := tD) (t := tD) (own := [("item", 1)]) (xs := ds) ((e_var 0).as (fun M v r => rep_DT r)) 1 (fun s0 H C cl fp m' x hx =>
        e_call ⟨f, fd, hm, F.kp, hb, ih m rfl⟩ hr _ (ea_cons (e_var 1) ea_nil) (hf x (List.mem_of_getElem? hx))) (blkOk_by (N := ["value", "item"]) (sc := defScope sfrozen) (by decide +kernel)) hz (fun _ _ _ _ _ => pg_name scFrozen.nd rfl (Or.inl rfl))) rfl scFrozen.nd))) (fun M v r => ?_))
      show Dp K M v (frz (.tuple ds))
      rw [frz, frzAll_map]; exact rep_TD r
    | none =>
      refine b_cons (s_if (t_val (e_isD2 (dd := .none) (d1 := false) (d2 := false) b.isinstance (e_var 0) (e_Tlist b.list) (e_Ttuple b.tuple) (fun _ _ r => r) kb_NoneType_list kb_NoneType_tuple)) (fun h => by cases h) (fun _ => b_nil ?_))
      exact b_cons (s_ret (e_var 0) (fun M v r => by show Dp K M v (frz .none); rw [frz]; exact r))
    | bool x =>
      refine b_cons (s_if (t_val (e_isD2 (dd := .bool x) (d1 := false) (d2 := false) b.isinstance (e_var 0) (e_Tlist b.list) (e_Ttuple b.tuple) (fun _ _ r => r) kb_bool_list kb_bool_tuple)) (fun h => by cases h) (fun _ => b_nil ?_))
      exact b_cons (s_ret (e_var 0) (fun M v r => by show Dp K M v (frz (.bool x)); rw [frz]; exact r))
    | int x =>
      refine b_cons (s_if (t_val (e_isD2 (dd := .int x) (d1 := false) (d2 := false) b.isinstance (e_var 0) (e_Tlist b.list) (e_Ttuple b.tuple) (fun _ _ r => r) kb_int_list kb_int_tuple)) (fun h => by cases h) (fun _ => b_nil ?_))
      exact b_cons (s_ret (e_var 0) (fun M v r => by show Dp K M v (frz (.int x)); rw [frz]; exact r))
    | str x =>
      refine b_cons (s_if (t_val (e_isD2 (dd := .str x) (d1 := false) (d2 := false) b.isinstance (e_var 0) (e_Tlist b.list) (e_Ttuple b.tuple) (fun _ _ r => r) kb_str_list kb_str_tuple)) (fun h => by cases h) (fun _ => b_nil ?_))
      exact b_cons (s_ret (e_var 0) (fun M v r => by show Dp K M v (frz (.str x)); rw [frz]; exact r))
    | dict kvs => cases n <;> exact (show False from hp).elim
theorem ok_frozen {f : Addr} {fd : FuncData} (F : Fun K "frozen" "frozen" sfrozen f fd) (b : Bi mg) (hm : mg "frozen" = some (.ref f)) (hb : Binds K fd ["value"] []) (n : Nat) : FnOk P w K mg base CX0 (n + 1) f fd ["value"] (spFz K n) := by
  induction n with
  | zero => exact st_frozen F b hm hb 0 fun m e => by cases e
  | succ n ih => exact st_frozen F b hm hb (n + 1) fun m e => by cases e; exact ih
end

section
variable {P : Program} {w : World} {K : Fg} {mg : Str → Option Value} {base : Heap}
theorem scis_whole : FnScope ["value"] ["value"] (defScope sis_whole) := ⟨rfl, rfl, rfl, by decide +kernel, rfl, by decide +kernel, by decide +kernel⟩
theorem okis_whole {f : Addr} {fd : FuncData} (F : Fun K "is_whole" "is_whole" sis_whole f fd) (b : Bi mg) : FnOk P w K mg base CX0 1 f fd ["value"] (spWhole K) := by
  refine fn_ok F scis_whole 0 rfl (fun _ => rfl) (fun cdv A outer s H E hr d hp => ?_)
  refine b_cons (s_ret (e_and (e_isD (dd := d) b.isinstance (e_var 0) (e_Tint b.int) (fun _ _ r => r) (kbI d)) (fun _ => e_one (e_not (e_isD (dd := d) b.isinstance (e_var 0) (e_Tbool b.bool) (fun _ _ r => r) (kbB d))))) (fun M v r => ?_))
  exact ret_is r (wholeD_eq d)
end

def isTargetM (value : Int) (many : Int) : Bool := decide (-3 ≤ value) && decide (value < many)
def spis_target (K : Fg) : Sp := spG K (fun i : Int × Int => [.vl tI i.1, .vl tI i.2]) (fun i => True) tB (fun i => isTargetM i.1 i.2)
section
variable {P : Program} {w : World} {K : Fg} {mg : Str → Option Value} {base : Heap}
theorem sc_is_target : FnScope ["value", "many"] ["value", "many"] (defScope sis_target) := ⟨rfl, rfl, rfl, by decide +kernel, rfl, by decide +kernel, by decide +kernel⟩
theorem okis_target {f : Addr} {fd : FuncData} (F : Fun K "is_target" "is_target" sis_target f fd) (b : Bi mg) (Cis_whole : Fn P w K mg base CX0 1 "is_whole" ["value"] (spWhole K)) : FnOk P w K mg base CX0 2 f fd ["value", "many"] (spis_target K) := by
  refine fn_ok F sc_is_target 0 rfl (fun _ => rfl) (fun cdv A outer s H E hr ⟨value, many⟩ hp => ?_)
  dsimp only at hp ⊢
  refine b_cons (s_ret (e_and (e_call Cis_whole (hr.mono (by decide)) _ (ea_cons (TL.E.as (t := tD) (y := .int _) (e_var 0) (fun _ _ r => dp_I r)) ea_nil) trivial) (fun h => (e_one (e_chain (e_neg e_int) (e_var 0) (e_var 1) cv_le (fun _ => cv_lt) (r0 := ⟨_, op_lt⟩))))) (fun M v r => ?_))
  exact ret_is r (by unfold isTargetM; rfl)
end

def spBook__init__ (K : Fg) (C : Addr) : Sp := spI K C (fun i : PyData × List (List Int) => [.vl tD i.1]) (fun i => (Fit 2 i.1 ∧ frz i.1 = dTab i.2) ∧ Good i.2 1000 1000) (fun i => bookFs i.2)
theorem target_of {n : Nat} {t : Int} (h : -3 ≤ t ∧ t < n) : isTargetM t (n : Int) = true := by
  unfold isTargetM; simp; omega
section
variable {P : Program} {w : World} {K : Fg} {mg : Str → Option Value} {base : Heap}
theorem sc_Book__init__ : FnScope ["self", "kinds", "copied", "kind", "place"] ["self", "kinds"] (defScope sBook__init__) := ⟨rfl, rfl, rfl, by decide +kernel, rfl, by decide +kernel, by decide +kernel⟩
theorem okBook__init__ {C : Addr} (hC : Cls K C) (hna : NoAttr K C "kinds") {f : Addr} {fd : FuncData} (F : Fun K "__init__" "Book.__init__" sBook__init__ f fd) (b : Bi mg) (Cfrozen : Fn P w K mg base CX0 3 "frozen" ["value"] (spFz K 2)) (Cis_target : Fn P w K mg base CX0 2 "is_target" ["value", "many"] (spis_target K)) : FnOk P w K mg base CX0 4 f fd ["self", "kinds"] (spBook__init__ K C) := by
  refine fn_init F sc_Book__init__ 3 rfl (fun _ => rfl) (fun cdv A outer s H E hr ⟨d, ks⟩ p dx hp => ?_)
  dsimp only at hp ⊢
  obtain ⟨⟨hf, hz⟩, hg⟩ := hp
  have hpos := hg.pos
  have hlen := hg.len
  refine b_cons (s_set 2 (TL.E.as (t := tTup (tTup tI)) (y := ks) (e_call Cfrozen (hr.mono (by decide)) d (ea_cons (e_var 1) ea_nil) hf) (fun M v r => by rw [hz] at r; exact pd_tab r)) ?_ sc_Book__init__.nd)
  refine b_cons (s_if (t_cv (e_lenT b.len (e_var 2)) e_int cv_eqI) (fun h => b_never (by have := of_decide_eq_true h; omega)) (fun h => b_nil ?_))
  refine b_cons (s_forR 3 (fun m G' => G' = [.ob p dx C [], .vl tD d, .vl (tTup (tTup tI)) ks, .un, .un]) _ b.range (e_lenT b.len (e_var 2)) (by omega) (Sub.refl _) rfl ?_ ?_ sc_Book__init__.nd rfl)
  · rintro m _ hm rfl
    have hrow := hg.row _ (ix_mem (xs := ks) (i := (m : Int)) (by omega) (by omega))
    refine b_cons (s_forR 4 (fun j G' => G' = [.ob p dx C [], .vl tD d, .vl (tTup (tTup tI)) ks, .vl tI (m : Int), .un]) _ b.range (e_lenT b.len (e_ixT (e_var 2) (e_var 3) (atI_ix (by omega) (by omega)))) (by omega) (Sub.refl _) rfl ?_ ?_ sc_Book__init__.nd rfl)
    · rintro j _ hj rfl
      have ht := hrow.2 _ (ix_mem (xs := ix ks (m : Int)) (i := (j : Int)) (by omega) (by omega))
      refine b_cons (s_if (t_not (t_val (e_call Cis_target (hr.mono (by decide)) (ix (ix ks (m : Int)) (j : Int), (ks.length : Int)) (ea_cons (e_ixT (e_ixT (e_var 2) (e_var 3) (atI_ix (by omega) (by omega))) (e_var 4) (atI_ix (by omega) (by omega))) (ea_cons (e_lenT b.len (e_var 2)) ea_nil)) trivial))) (fun h => b_never ?_) (fun h => b_nil ?_))
      · dsimp only at h; rw [target_of ht] at h; cases h
      · exact B.weak (b_nil rfl) (.same (.same (.same (.same (.un .nil)))))
    · rintro _ rfl
      exact B.weak (b_nil rfl) (.same (.same (.same (.un (.un .nil)))))
  · rintro _ rfl
    refine b_cons (s_fldNew 0 rfl (e_var 2) hC hna rfl (by decide) ?_)
    exact b_nil rfl
end

def movedM (kinds : List (List Int)) (amount : Int) : List (List Int) := kinds.map fun kind => kind.map fun t => if decide (0 ≤ t) = true then t + amount else t
def spmoved_kinds (K : Fg) : Sp := spG K (fun i : List (List Int) × Int => [.vl (tTup (tTup tI)) i.1, .vl tI i.2]) (fun i => i.1.length ≤ 1000 ∧ ∀ r ∈ i.1, r.length ≤ 1000) (tTup (tTup tI)) (fun i => movedM i.1 i.2)
section
variable {P : Program} {w : World} {K : Fg} {mg : Str → Option Value} {base : Heap}
theorem sc_moved_kinds : FnScope ["kinds", "amount", "target", "kind"] ["kinds", "amount"] (defScope smoved_kinds) := ⟨rfl, rfl, rfl, by decide +kernel, rfl, by decide +kernel, by decide +kernel⟩
theorem okmoved_kinds {f : Addr} {fd : FuncData} (F : Fun K "moved_kinds" "moved_kinds" smoved_kinds f fd) (b : Bi mg)  : FnOk P w K mg base CX0 1 f fd ["kinds", "amount"] (spmoved_kinds K) := by
  refine fn_ok F sc_moved_kinds 2 rfl (fun _ => rfl) (fun cdv A outer s H E hr ⟨kinds, amount⟩ hp => ?_)
  dsimp only at hp ⊢
  obtain ⟨h1, h2⟩ := hp
  refine b_cons (s_ret (e_tupL b.tuple (EL.toE (el_lc (lc_T (own := [("kind", 3)]) (e_var 0) 3 (fun s0 H C cl fp m x hx => (e_tupL b.tuple (EL.toE (el_lc (lc_T (own := [("target", 2)]) (e_var 3) 2 (fun s0 H C cl fp m x hx => (e_if (t_cv (e_var 2) e_int cv_ge) (fun h => (e_add (e_var 2) (e_var 1))) (fun h => (e_var 2)))) (blkIn (N := ["kinds", "amount", "target", "kind"]) (by decide +kernel)) (by have := h2 x (List.mem_of_getElem? hx); omega) (fun _ _ _ _ _ => pg_name sc_moved_kinds.nd rfl (by first | exact Or.inl rfl | exact Or.inr rfl))) rfl sc_moved_kinds.nd)))) (blkOk_by (N := ["kinds", "amount", "target", "kind"]) (sc := defScope smoved_kinds) (by decide +kernel)) (by omega) (fun _ _ _ _ _ => pg_name sc_moved_kinds.nd rfl (by first | exact Or.inl rfl | exact Or.inr rfl))) rfl sc_moved_kinds.nd))) (fun M v r => ?_))
  exact r
end

def sumM (l r : List (List Int)) : List (List Int) := ([[1, 1 + (l.length : Int)]] ++ movedM l 1) ++ movedM r (1 + (l.length : Int))
theorem moved_len (l : List (List Int)) (a : Int) : (movedM l a).length = l.length := by unfold movedM; rw [List.length_map]
theorem sum_good {l r : List (List Int)} {n m e : Int} (hl : Good l n e) (hr : Good r m e) (he : 2 ≤ e) : Good (sumM l r) (1 + n + m) e := by
  have p1 := hl.pos
  have p2 := hr.pos
  have l1 := hl.len
  have l2 := hr.len
  have ln : (sumM l r).length = 1 + l.length + r.length := by unfold sumM; rw [List.length_append, List.length_append, moved_len, moved_len]; simp
  refine ⟨by rw [ln]; omega, by rw [ln]; omega, fun x hx => ?_⟩
  rw [ln]
  have mv : ∀ (ks : List (List Int)) (a N : Int), Good ks N e → 0 ≤ a → (∀ y ∈ movedM ks a, (y.length : Int) ≤ e ∧ ∀ t ∈ y, -3 ≤ t ∧ t < ks.length + a) := fun ks a N hk ha y hy => by
    obtain ⟨z, hz, rfl⟩ := List.mem_map.mp hy
    have hq := hk.row z hz
    refine ⟨by rw [List.length_map]; exact hq.1, fun t ht => ?_⟩
    obtain ⟨u, hu, rfl⟩ := List.mem_map.mp ht
    have := hq.2 u hu
    split
    · rename_i c; have c := of_decide_eq_true c; omega
    · omega
  rcases List.mem_append.mp hx with y | y
  · rcases List.mem_append.mp y with y | y
    · rw [List.mem_singleton.mp y]
      refine ⟨by simp; omega, fun t ht => ?_⟩
      simp only [List.mem_cons, List.not_mem_nil, or_false] at ht
      omega
    · have q := mv l 1 n hl (by omega) x y
      exact ⟨q.1, fun t ht => by have := q.2 t ht; omega⟩
  · have q := mv r (1 + (l.length : Int)) m hr (by omega) x y
    exact ⟨q.1, fun t ht => by have := q.2 t ht; omega⟩
def spBook__add__ (K : Fg) (C : Addr) : Sp := spG K (fun i : List (List Int) × List (List Int) => [.vl (tBook C) i.1, .vl (tBook C) i.2]) (fun i => Good i.1 100 100 ∧ Good i.2 100 100) (tBook C) (fun i => sumM i.1 i.2)
section
variable {P : Program} {w : World} {K : Fg} {mg : Str → Option Value} {base : Heap}
theorem sc_Book__add__ : FnScope ["self", "other", "second", "first_kind"] ["self", "other"] (defScope sBook__add__) := ⟨rfl, rfl, rfl, by decide +kernel, rfl, by decide +kernel, by decide +kernel⟩
theorem okBook__add__ {C : Addr} (hC : Cls K C) (hna : NoAttr K C "kinds") {f : Addr} {fd : FuncData} (F : Fun K "__add__" "Book.__add__" sBook__add__ f fd) (b : Bi mg) (CBook : Mkr P w K mg base 4 "Book" C ["self", "kinds"] (spBook__init__ K C)) (Cmoved_kinds : Fn P w K mg base CX0 1 "moved_kinds" ["kinds", "amount"] (spmoved_kinds K)) : FnOk P w K mg base CX0 6 f fd ["self", "other"] (spBook__add__ K C) := by
  refine fn_ok F sc_Book__add__ 2 rfl (fun _ => rfl) (fun cdv A outer s H E hr ⟨l, r⟩ hp => ?_)
  dsimp only at hp ⊢
  obtain ⟨h1, h2⟩ := hp
  have hl := h1.len
  have hl2 := h2.len
  have hs := sum_good h1 h2 (by omega)
  have hfit := hs.row
  have hsl := hs.len
  have m1 := moved_len l 1
  have m2 := moved_len r (1 + (l.length : Int))
  refine b_cons (s_set 2 (e_add e_int (e_lenT b.len (e_kinds (e_var 0) hC hna))) ?_ sc_Book__add__.nd)
  refine b_cons (s_set 3 (e_tup (eh_cons e_int (eh_cons (e_var 2) eh_nil))) ?_ sc_Book__add__.nd)
  exact b_cons (s_ret (TL.E.as (t := tBook C) (y := sumM l r) (e_mk CBook (hr.mono (by decide)) (dTab (sumM l r), sumM l r) (ea_cons (TL.E.as (t := tD) (y := dTab (sumM l r)) (e_catA (e_catA (e_tup (eh_cons (e_var 3) eh_nil)) (e_call Cmoved_kinds (hr.mono (by decide)) (l, 1) (ea_cons (e_kinds (e_var 0) hC hna) (ea_cons e_int ea_nil)) (show l.length ≤ 1000 ∧ ∀ x ∈ l, x.length ≤ 1000 from ⟨by omega, fun x hx => by have := (h1.row x hx).1; omega⟩)) (by show 1 + (movedM l 1).length ≤ _; omega)) (e_call Cmoved_kinds (hr.mono (by decide)) (r, 1 + (l.length : Int)) (ea_cons (e_kinds (e_var 1) hC hna) (ea_cons (e_var 2) ea_nil)) (show r.length ≤ 1000 ∧ ∀ x ∈ r, x.length ≤ 1000 from ⟨by omega, fun x hx => by have := (h2.row x hx).1; omega⟩)) (by show ([[1, 1 + (l.length : Int)]] ++ movedM l 1).length + (movedM r (1 + (l.length : Int))).length ≤ _; rw [List.length_append]; simp; omega)) (fun _ _ r => dp_tab r)) ea_nil) (show (Fit 2 (dTab (sumM l r)) ∧ frz (dTab (sumM l r)) = dTab (sumM l r)) ∧ Good (sumM l r) 1000 1000 from ⟨⟨fit_tab (by omega) (fun x hx => by have := (hs.row x hx).1; omega), frz_dTab _⟩, hs.mono (by omega) (by omega)⟩)) (fun _ _ r => r)) (fun M v r => r))
end

theorem sum_row (kind : List Int) (a : Int) : (kind.map fun t : Int => ix [t, t + a] (if decide (0 ≤ t) = true then 1 else 0)) = kind.map fun t => if decide (0 ≤ t) = true then t + a else t := by
  apply List.map_congr_left
  intro t _
  split
  · exact ix_getElem (by omega) rfl
  · exact ix_getElem (by omega) rfl
theorem moved_take {ks : List (List Int)} {a : Int} {m : Nat} {x : List Int} (h : ks[m]? = some x) : movedM (ks.take (m + 1)) a = movedM (ks.take m) a ++ [x.map fun t => if decide (0 ≤ t) = true then t + a else t] := by
  unfold movedM; rw [take_snoc h, List.map_append]; rfl
def sp_law_sum (K : Fg) : Sp := spG K (fun i : List (List Int) × List (List Int) => [.vl (tTup (tTup tI)) i.1, .vl (tTup (tTup tI)) i.2]) (fun i => Good i.1 100 100 ∧ Good i.2 100 100) (tTup (tTup tI)) (fun i => sumM i.1 i.2)
section
variable {P : Program} {w : World} {K : Fg} {mg : Str → Option Value} {base : Heap}
theorem sc_law_sum : FnScope ["left", "right", "shift", "found", "kind", "t"] ["left", "right"] (defScope s_law_sum) := ⟨rfl, rfl, rfl, by decide +kernel, rfl, by decide +kernel, by decide +kernel⟩
theorem ok_law_sum {f : Addr} {fd : FuncData} (F : Fun K "_law_sum" "_law_sum" s_law_sum f fd) (b : Bi mg) : FnOk P w K mg base CX0 1 f fd ["left", "right"] (sp_law_sum K) := by
  refine fn_ok F sc_law_sum 4 rfl (fun _ => rfl) (fun cdv A outer s H E hr ⟨left, right⟩ hp => ?_)
  dsimp only at hp ⊢
  obtain ⟨h1, h2⟩ := hp
  have hl1 := h1.len
  have hl2 := h2.len
  refine b_cons (s_set 2 (e_add e_int (e_lenT b.len (e_var 0))) ?_ sc_law_sum.nd)
  refine b_cons (s_own 3 (el_lst (eh_cons (e_tup (eh_cons e_int (eh_cons (e_var 2) eh_nil))) eh_nil)) ?_ sc_law_sum.nd)
  refine b_cons (s_forT 4 (fun m G' => G' = [.vl (tTup (tTup tI)) left, .vl (tTup (tTup tI)) right, .vl tI (1 + (left.length : Int)), .ow (tTup tI) ([[1, 1 + (left.length : Int)]] ++ movedM (left.take m) 1), .un, .un]) _ (e_var 0) (Sub.refl _) rfl ?_ ?_ sc_law_sum.nd rfl)
  · rintro m kind _ hx rfl
    have hk := h1.row kind (List.mem_of_getElem? hx)
    have hm := (List.getElem?_eq_some_iff.mp hx).1
    have hml : (movedM (left.take m) 1).length ≤ m := by rw [moved_len, List.length_take]; omega
    rw [moved_take hx, ← List.append_assoc]
    refine b_cons (s_app 3 rfl (TL.E.is (e_tupL b.tuple (EL.toE (el_lc (lc_T (f := fun t : Int => ix [t, t + 1] (if decide (0 ≤ t) = true then 1 else 0)) (xs := kind) (own := [("t", 5)]) (e_var 4) 5 (fun s0 H C cl fp j t ht => e_ixL (EL.toE (el_lst (eh_cons (e_var 5) (eh_cons (e_add (e_var 5) e_int) eh_nil)))) (e_intB b.int (e_cv (e_var 5) e_int cv_ge)) (atI_ix (by split <;> (simp only [List.length_cons, List.length_nil]; omega)) (by split <;> (simp only [List.length_cons, List.length_nil]; omega)))) (blkOk_by (N := ["left", "right", "shift", "found", "kind", "t"]) (sc := defScope s_law_sum) (by decide +kernel)) (by have := hk.1; omega) (fun _ _ _ _ _ => pg_name sc_law_sum.nd rfl (by first | exact Or.inl rfl | exact Or.inr rfl))) rfl sc_law_sum.nd))) (sum_row kind 1)) (by rw [List.length_append]; simp; omega) ?_)
    exact B.weak (b_nil rfl) (.same (.same (.same (.same (.un (.un .nil))))))
  · rintro _ rfl
    rw [List.take_length]
    refine b_cons (s_forT 4 (fun m G' => G' = [.vl (tTup (tTup tI)) left, .vl (tTup (tTup tI)) right, .vl tI (1 + (left.length : Int)), .ow (tTup tI) (([[1, 1 + (left.length : Int)]] ++ movedM left 1) ++ movedM (right.take m) (1 + (left.length : Int))), .un, .un]) _ (e_var 1) (Sub.refl _) (by rw [List.take_zero]; show _ = [_, _, _, Sl.ow (tTup tI) (_ ++ []), _, _]; rw [List.append_nil]) ?_ ?_ sc_law_sum.nd rfl)
    · rintro m kind _ hx rfl
      have hk := h2.row kind (List.mem_of_getElem? hx)
      have hm := (List.getElem?_eq_some_iff.mp hx).1
      have hml : (movedM (right.take m) (1 + (left.length : Int))).length ≤ m := by rw [moved_len, List.length_take]; omega
      have hll : (movedM left 1).length = left.length := moved_len _ _
      rw [moved_take hx, ← List.append_assoc]
      refine b_cons (s_app 3 rfl (TL.E.is (e_tupL b.tuple (EL.toE (el_lc (lc_T (f := fun t : Int => ix [t, t + (1 + (left.length : Int))] (if decide (0 ≤ t) = true then 1 else 0)) (xs := kind) (own := [("t", 5)]) (e_var 4) 5 (fun s0 H C cl fp j t ht => e_ixL (EL.toE (el_lst (eh_cons (e_var 5) (eh_cons (e_add (e_var 5) (e_var 2)) eh_nil)))) (e_intB b.int (e_cv (e_var 5) e_int cv_ge)) (atI_ix (by split <;> (simp only [List.length_cons, List.length_nil]; omega)) (by split <;> (simp only [List.length_cons, List.length_nil]; omega)))) (blkOk_by (N := ["left", "right", "shift", "found", "kind", "t"]) (sc := defScope s_law_sum) (by decide +kernel)) (by have := hk.1; omega) (fun _ _ _ _ _ => pg_name sc_law_sum.nd rfl (by first | exact Or.inl rfl | exact Or.inr rfl))) rfl sc_law_sum.nd))) (sum_row kind (1 + (left.length : Int)))) (by rw [List.length_append, List.length_append]; simp; omega) ?_)
      exact B.weak (b_nil rfl) (.same (.same (.same (.same (.un (.un .nil))))))
    · rintro _ rfl
      rw [List.take_length]
      exact b_cons (s_ret (e_read 3 rfl (imm_T (imm_T imm_I)) (e_tupL b.tuple (e_var 3))) (fun M v r => r))
end

open Classical in
noncomputable def lineP (kinds : List (List Int)) (ts : List Int) : List Bool := (List.range kinds.length).map fun b : Nat => decide ((b : Int) ∈ ts)
noncomputable def midP (kinds : List (List Int)) (m k : Nat) : List (List Bool) := (List.range kinds.length).map fun a => if a < k then rowP kinds (m + 1) a else rowP kinds m a
theorem lineP_set {kinds : List (List Int)} {ts : List Int} {t : Int} (h0 : 0 ≤ t) (h1 : t < kinds.length) : (lineP kinds ts).set t.toNat true = lineP kinds (ts ++ [t]) := by
  classical
  unfold lineP
  have e : (true : Bool) = (fun b : Nat => decide ((b : Int) ∈ ts ++ [t])) t.toNat := by
    symm; exact decide_eq_true (by rw [show ((t.toNat : Nat) : Int) = t by omega]; simp)
  rw [e]
  refine set_range (n := kinds.length) (k := t.toNat) (f := fun b : Nat => decide ((b : Int) ∈ ts)) (g := fun b : Nat => decide ((b : Int) ∈ ts ++ [t])) (by omega) fun i hi hne => ?_
  congr 1
  apply propext
  rw [List.mem_append, List.mem_singleton]
  exact ⟨fun h => h.elim id fun z => absurd z (by omega), .inl⟩
theorem lineP_neg {kinds : List (List Int)} {ts : List Int} {t : Int} (h0 : t < 0) : lineP kinds (ts ++ [t]) = lineP kinds ts := by
  classical
  unfold lineP
  apply List.map_congr_left
  intro b _
  congr 1
  apply propext
  rw [List.mem_append, List.mem_singleton]
  exact ⟨fun h => h.elim id fun z => absurd z (by omega), .inl⟩
theorem lineP_row (kinds : List (List Int)) (k : Nat) : lineP kinds (ix kinds (k : Int)) = rowP kinds 0 k := by
  classical
  unfold lineP rowP
  apply List.map_congr_left
  intro b _
  congr 1
  exact propext (Pth.zero (E := edge kinds) (a := k) (b := b)).symm
theorem midP_zero (kinds : List (List Int)) (m : Nat) : midP kinds m 0 = tabP kinds m := by
  unfold midP tabP
  apply List.map_congr_left
  intro a _
  rw [if_neg (Nat.not_lt_zero _)]
theorem midP_all (kinds : List (List Int)) (m : Nat) : midP kinds m kinds.length = tabP kinds (m + 1) := by
  unfold midP tabP
  apply List.map_congr_left
  intro a ha
  rw [if_pos (List.mem_range.mp ha)]
theorem rowP_self (kinds : List (List Int)) (m : Nat) : rowP kinds (m + 1) m = rowP kinds m m := by
  classical
  unfold rowP
  apply List.map_congr_left
  intro b _
  congr 1
  exact propext Pth.self
theorem midP_same {kinds : List (List Int)} {m k : Nat} (hk : k < kinds.length) (h : rowP kinds (m + 1) k = rowP kinds m k) : midP kinds m (k + 1) = midP kinds m k := by
  unfold midP
  apply List.map_congr_left
  intro a _
  by_cases z : a < k
  · rw [if_pos z, if_pos (by omega)]
  · by_cases y : a = k
    · subst y; rw [if_pos (by omega), if_neg (by omega), h]
    · rw [if_neg z, if_neg (by omega)]
theorem midP_set {kinds : List (List Int)} {m k : Nat} (hk : k < kinds.length) : (midP kinds m k).set k (rowP kinds (m + 1) k) = midP kinds m (k + 1) := by
  unfold midP
  have e : rowP kinds (m + 1) k = (fun a => if a < k + 1 then rowP kinds (m + 1) a else rowP kinds m a) k := by dsimp only; rw [if_pos (by omega)]
  rw [e]
  refine set_range (n := kinds.length) (k := k) (f := fun a => if a < k then rowP kinds (m + 1) a else rowP kinds m a) (g := fun a => if a < k + 1 then rowP kinds (m + 1) a else rowP kinds m a) hk fun i hi hne => ?_
  by_cases z : i < k
  · rw [if_pos z, if_pos (by omega)]
  · rw [if_neg z, if_neg (by omega)]
theorem midP_ix {kinds : List (List Int)} {m k a : Nat} (ha : a < kinds.length) : ix (midP kinds m k) (a : Int) = if a < k then rowP kinds (m + 1) a else rowP kinds m a := by
  unfold midP; rw [ix_range ha]
theorem midP_m {kinds : List (List Int)} {m k : Nat} (hm : m < kinds.length) : ix (midP kinds m k) (m : Int) = rowP kinds m m := by
  rw [midP_ix hm]; split
  · exact rowP_self kinds m
  · rfl
open Classical in
theorem rowP_ix {kinds : List (List Int)} {m a b : Nat} (hb : b < kinds.length) : ix (rowP kinds m a) (b : Int) = decide (Pth (edge kinds) m a b) := by
  unfold rowP; rw [ix_range hb]
theorem rowP_or {kinds : List (List Int)} {m k : Nat} (h : Pth (edge kinds) m k m) : ((List.range kinds.length).map fun j : Nat => ix (rowP kinds m k) (j : Int) || ix (rowP kinds m m) (j : Int)) = rowP kinds (m + 1) k := by
  classical
  unfold rowP
  apply List.map_congr_left
  intro j hj
  rw [ix_range (List.mem_range.mp hj), ix_range (List.mem_range.mp hj), ← Bool.decide_or]
  congr 1
  apply propext
  rw [Pth.succ]
  exact ⟨fun z => z.elim .inl fun y => .inr ⟨h, y⟩, fun z => z.elim .inl fun y => .inr y.2⟩
theorem rowP_no {kinds : List (List Int)} {m k : Nat} (h : ¬ Pth (edge kinds) m k m) : rowP kinds (m + 1) k = rowP kinds m k := by
  classical
  unfold rowP
  apply List.map_congr_left
  intro j _
  congr 1
  apply propext
  rw [Pth.succ]
  exact ⟨fun z => z.elim id fun y => absurd y.1 h, .inl⟩
noncomputable def spRT (K : Fg) : Sp := spG K (fun i : List (List Int) => [.vl (tTup (tTup tI)) i]) (fun i => Good i 1000 1000) (tLst (tLst tB)) (fun i => reachTab i)
section
variable {P : Program} {w : World} {K : Fg} {mg : Str → Option Value} {base : Heap}
theorem sc_law_reach : FnScope ["kinds", "many", "table", "k", "line", "target", "m", "j"] ["kinds"] (defScope s_law_reach) := ⟨rfl, rfl, rfl, by decide +kernel, rfl, by decide +kernel, by decide +kernel⟩
theorem ok_law_reach {f : Addr} {fd : FuncData} (F : Fun K "_law_reach" "_law_reach" s_law_reach f fd) (b : Bi mg) : FnOk P w K mg base CX0 1 f fd ["kinds"] (spRT K) := by
  classical
  refine fn_ok F sc_law_reach 7 rfl (fun _ => rfl) (fun cdv A outer s H E hr kinds hg => ?_)
  have hpos := hg.pos
  have hlen := hg.len
  refine b_cons (s_set 1 (e_lenT b.len (e_var 0)) ?_ sc_law_reach.nd)
  refine b_cons (s_own 2 (el_lst (s := tLst tB) eh_nil) ?_ sc_law_reach.nd)
  refine b_cons (s_forR 3 (fun k G' => G' = [.vl (tTup (tTup tI)) kinds, .vl tI (kinds.length : Int), .ow (tLst tB) ((List.range k).map (rowP kinds 0)), .un, .un, .un, .un, .un]) _ b.range (e_var 1) (by omega) (Sub.refl _) rfl ?_ ?_ sc_law_reach.nd rfl)
  · rintro k _ hk rfl
    have hrow := hg.row _ (ix_mem (xs := kinds) (i := (k : Int)) (by omega) (by omega))
    refine b_cons (s_own 4 (el_rep (EL.toE (el_lst (eh_cons e_bl eh_nil))) (e_var 1) (by omega) (by simp only [List.length_cons, List.length_nil]; omega)) ?_ sc_law_reach.nd)
    have el : (List.replicate (kinds.length : Int).toNat [false]).flatten = lineP kinds [] := by
      unfold lineP
      rw [Int.toNat_natCast]
      apply List.ext_getElem?
      intro i
      have : ∀ n : Nat, (List.replicate n [false]).flatten = List.replicate n false := fun n => by
        induction n with
        | zero => rfl
        | succ n ih => rw [List.replicate_succ, List.flatten_cons, ih]; rfl
      rw [this, List.getElem?_replicate, List.getElem?_map]
      by_cases z : i < kinds.length
      · rw [if_pos z, List.getElem?_range z]; simp
      · rw [if_neg z, List.getElem?_eq_none (by simp; omega)]; rfl
    rw [el]
    refine b_cons (s_forT 5 (fun j G' => G' = [.vl (tTup (tTup tI)) kinds, .vl tI (kinds.length : Int), .ow (tLst tB) ((List.range k).map (rowP kinds 0)), .vl tI (k : Int), .ow tB (lineP kinds ((ix kinds (k : Int)).take j)), .un, .un, .un]) _ (e_ixT (e_var 0) (e_var 3) (atI_ix (by omega) (by omega))) (Sub.refl _) rfl ?_ ?_ sc_law_reach.nd rfl)
    · rintro j t _ ht rfl
      rw [take_snoc ht]
      have htr := hrow.2 t (List.mem_of_getElem? ht)
      refine b_cut (fun G' => ∃ a, G' = [.vl (tTup (tTup tI)) kinds, .vl tI (kinds.length : Int), .ow (tLst tB) ((List.range k).map (rowP kinds 0)), .vl tI (k : Int), .ow tB (lineP kinds ((ix kinds (k : Int)).take j ++ [t])), a, .un, .un]) (s_if (t_cv (e_var 5) e_int cv_ge) (fun h => ?_) (fun h => ?_)) ?_
      · have h' : 0 ≤ t := of_decide_eq_true h
        rw [← lineP_set h' htr.2]
        refine b_cons (s_seti 4 (m := t.toNat) rfl e_bl (e_var 5) (ixNp h' (by unfold lineP; rw [List.length_map, List.length_range]; exact htr.2)) ?_)
        exact b_nil ⟨_, rfl⟩
      · have h' : ¬ 0 ≤ t := of_decide_eq_false h
        rw [lineP_neg (by omega)]
        exact b_nil ⟨_, rfl⟩
      rintro _ ⟨a, rfl⟩
      exact B.weak (b_nil rfl) (.same (.same (.same (.same (.same (.un (.un (.un .nil))))))))
    · rintro _ rfl
      rw [List.take_length, lineP_row]
      refine b_freeze 4 rfl ?_
      refine b_cons (s_app 2 rfl (e_var 4) (by simp; omega) ?_)
      refine B.weak (b_nil rfl) ?_
      rw [List.range_succ, List.map_append]
      exact .same (.same (.same (.un (.un (.un (.un (.un .nil)))))))
  · rintro _ rfl
    rw [Int.toNat_natCast]
    refine b_cons (s_forR 6 (fun m G' => G' = [.vl (tTup (tTup tI)) kinds, .vl tI (kinds.length : Int), .ow (tLst tB) (tabP kinds m), .un, .un, .un, .un, .un]) _ b.range (e_var 1) (by omega) (Sub.refl _) rfl ?_ ?_ sc_law_reach.nd rfl)
    · rintro m _ hm rfl
      refine b_cons (s_forR 3 (fun k G' => G' = [.vl (tTup (tTup tI)) kinds, .vl tI (kinds.length : Int), .ow (tLst tB) (midP kinds m k), .un, .un, .un, .vl tI (m : Int), .un]) _ b.range (e_var 1) (by omega) (Sub.refl _) (by rw [midP_zero]; rfl) ?_ ?_ sc_law_reach.nd rfl)
      · rintro k _ hk rfl
        have hk' : k < kinds.length := by omega
        have hm' : m < kinds.length := by omega
        have hml : (midP kinds m k).length = kinds.length := by unfold midP; simp
        have hkk : ix (midP kinds m k) (k : Int) = rowP kinds m k := by rw [midP_ix hk', if_neg (Nat.lt_irrefl _)]
        refine b_cut (fun G' => G' = [.vl (tTup (tTup tI)) kinds, .vl tI (kinds.length : Int), .ow (tLst tB) (midP kinds m (k + 1)), .vl tI (k : Int), .un, .un, .vl tI (m : Int), .un]) (s_if (t_read 2 rfl (t_val (e_ixL (e_ixL (e_var 2) (e_var 3) (atI_ix (by omega) (by omega))) (e_var 6) (atI_ix (by omega) (by rw [hkk, rowP_len]; omega))))) (fun h => ?_) (fun h => ?_)) ?_
        · rw [hkk, rowP_ix hm'] at h
          have h := of_decide_eq_true h
          rw [← midP_set hk', ← rowP_or h]
          refine b_cons (s_seti 2 (m := k) rfl (EL.toE (el_read 2 rfl imm_B (el_lc (lc_R (f := fun j : Nat => ix (rowP kinds m k) (j : Int) || ix (rowP kinds m m) (j : Int)) (own := [("j", 7)]) b.range (e_var 1) (by omega) 7 (fun s0 H C cl fp j hj => e_or (e_ixL (TL.E.is (e_ixL (e_var 2) (e_var 3) (atI_ix (by omega) (by omega))) hkk) (e_var 7) (atI_ix (by omega) (by rw [rowP_len]; omega))) (fun h => e_one (e_ixL (TL.E.is (e_ixL (e_var 2) (e_var 6) (atI_ix (by omega) (by omega))) (midP_m hm')) (e_var 7) (atI_ix (by omega) (by rw [rowP_len]; omega))))) (blkOk_by (N := ["kinds", "many", "table", "k", "line", "target", "m", "j"]) (sc := defScope s_law_reach) (by decide +kernel)) (fun _ _ _ _ _ => pg_name sc_law_reach.nd rfl (by first | exact Or.inl rfl | exact Or.inr rfl))) rfl sc_law_reach.nd))) (e_var 3) (by rw [ixNp (by omega) (by omega), Int.toNat_natCast]) ?_)
          exact b_nil rfl
        · rw [hkk, rowP_ix hm'] at h
          have h := of_decide_eq_false h
          rw [midP_same hk' (rowP_no h)]
          exact b_nil rfl
        rintro _ rfl
        exact B.weak (b_nil rfl) (.same (.same (.same (.un (.un (.un (.same (.un .nil))))))))
      · rintro _ rfl
        rw [Int.toNat_natCast, midP_all]
        exact B.weak (b_nil rfl) (.same (.same (.same (.un (.un (.un (.un (.un .nil))))))))
    · rintro _ rfl
      rw [Int.toNat_natCast]
      refine b_freeze 2 rfl ?_
      exact b_cons (s_ret (e_var 2) (fun M v r => r))
end

section
variable {P : Program} {w : World} {K : Fg} {mg : Str → Option Value} {base : Heap}
theorem sc_law_whole : FnScope ["value"] ["value"] (defScope s_law_whole) := ⟨rfl, rfl, rfl, by decide +kernel, rfl, by decide +kernel, by decide +kernel⟩
theorem ok_law_whole {f : Addr} {fd : FuncData} (F : Fun K "_law_whole" "_law_whole" s_law_whole f fd) (b : Bi mg) : FnOk P w K mg base CX0 1 f fd ["value"] (spWhole K) := by
  refine fn_ok F sc_law_whole 0 rfl (fun _ => rfl) (fun cdv A outer s H E hr d hp => ?_)
  refine b_cons (s_ret (e_and (e_isD (dd := d) b.isinstance (e_var 0) (e_Tint b.int) (fun _ _ r => r) (kbI d)) (fun _ => e_one (e_not (e_isD (dd := d) b.isinstance (e_var 0) (e_Tbool b.bool) (fun _ _ r => r) (kbB d))))) (fun M v r => ?_))
  exact ret_is r (wholeD_eq d)
end

def sp_law_same_rowT (K : Fg) : Sp := spG K (fun i : List Int × List Int => [.vl (tTup tI) i.1, .vl (tTup tI) i.2]) (fun i => i.1 = i.2 ∧ i.2.length ≤ 100000) tB (fun i => true)
def sp_law_same_rowL (K : Fg) : Sp := spG K (fun i : List Int × List Int => [.vl (tTup tI) i.1, .vl (tLst tI) i.2]) (fun i => i.1 = i.2 ∧ i.2.length ≤ 100000) tB (fun i => true)
section
variable {P : Program} {w : World} {K : Fg} {mg : Str → Option Value} {base : Heap}
theorem sc_law_same_row : FnScope ["told", "due", "k"] ["told", "due"] (defScope s_law_same_row) := ⟨rfl, rfl, rfl, by decide +kernel, rfl, by decide +kernel, by decide +kernel⟩
theorem ok_law_same_rowT {f : Addr} {fd : FuncData} (F : Fun K "_law_same_row" "_law_same_row" s_law_same_row f fd) (b : Bi mg) (C_law_whole : Fn P w K mg base CX0 1 "_law_whole" ["value"] (spWhole K)) : FnOk P w K mg base CX0 2 f fd ["told", "due"] (sp_law_same_rowT K) := by
  refine fn_ok F sc_law_same_row 1 rfl (fun _ => rfl) (fun cdv A outer s H E hr ⟨value, due⟩ hp => ?_)
  dsimp only at hp ⊢
  obtain ⟨rfl, hz⟩ := hp
  refine b_cons (s_if (TW.toT (w_or (t_not (t_val (e_isD (dd := dRow value) b.isinstance (e_var 0) (e_Ttuple b.tuple) (fun _ _ r => dp_row r) (kbT _)))) (fun h => (w_or1 (t_cv (e_lenT b.len (e_var 0)) (e_lenT b.len (e_var 1)) cv_neI))))) (fun h1 => ?_) (fun h1 => ?_))
  · have h1p := h1; simp [isTD, dRow] at h1p
  · refine b_nil ?_
    refine b_cons (s_forR 2 (fun m G' => G' = [.vl (tTup tI) value, .vl (tTup tI) value, .un]) _ b.range (e_lenT b.len (e_var 1)) (by omega) (Sub.refl _) rfl ?_ ?_ sc_law_same_row.nd rfl)
    · rintro m _ hm rfl
      refine b_cons (s_if (TW.toT (w_or (t_not (t_val (e_call C_law_whole (hr.mono (by decide)) _ (ea_cons (TL.E.as (t := tD) (y := .int _) (e_ixT (e_var 0) (e_var 2) (atI_ix (by omega) (by omega))) (fun _ _ r => dp_I r)) ea_nil) trivial))) (fun h => (w_or1 (t_cv (e_ixT (e_var 0) (e_var 2) (atI_ix (by omega) (by omega))) (e_ixT (e_var 1) (e_var 2) (atI_ix (by omega) (by omega))) cv_neI))))) (fun h2 => ?_) (fun h2 => ?_))
      · have h2p := h2; simp [wholeD] at h2p
      · exact b_nil (B.weak (b_nil rfl) (.same (.same (.un .nil))))
    · rintro _ rfl
      exact b_cons (s_ret e_bl (fun M v r => r))
theorem ok_law_same_rowL {f : Addr} {fd : FuncData} (F : Fun K "_law_same_row" "_law_same_row" s_law_same_row f fd) (b : Bi mg) (C_law_whole : Fn P w K mg base CX0 1 "_law_whole" ["value"] (spWhole K)) : FnOk P w K mg base CX0 2 f fd ["told", "due"] (sp_law_same_rowL K) := by
  refine fn_ok F sc_law_same_row 1 rfl (fun _ => rfl) (fun cdv A outer s H E hr ⟨value, due⟩ hp => ?_)
  dsimp only at hp ⊢
  obtain ⟨rfl, hz⟩ := hp
  refine b_cons (s_if (TW.toT (w_or (t_not (t_val (e_isD (dd := dRow value) b.isinstance (e_var 0) (e_Ttuple b.tuple) (fun _ _ r => dp_row r) (kbT _)))) (fun h => (w_or1 (t_cv (e_lenT b.len (e_var 0)) (e_lenL b.len (e_var 1)) cv_neI))))) (fun h1 => ?_) (fun h1 => ?_))
  · have h1p := h1; simp [isTD, dRow] at h1p
  · refine b_nil ?_
    refine b_cons (s_forR 2 (fun m G' => G' = [.vl (tTup tI) value, .vl (tLst tI) value, .un]) _ b.range (e_lenL b.len (e_var 1)) (by omega) (Sub.refl _) rfl ?_ ?_ sc_law_same_row.nd rfl)
    · rintro m _ hm rfl
      refine b_cons (s_if (TW.toT (w_or (t_not (t_val (e_call C_law_whole (hr.mono (by decide)) _ (ea_cons (TL.E.as (t := tD) (y := .int _) (e_ixT (e_var 0) (e_var 2) (atI_ix (by omega) (by omega))) (fun _ _ r => dp_I r)) ea_nil) trivial))) (fun h => (w_or1 (t_cv (e_ixT (e_var 0) (e_var 2) (atI_ix (by omega) (by omega))) (e_ixL (e_var 1) (e_var 2) (atI_ix (by omega) (by omega))) cv_neI))))) (fun h2 => ?_) (fun h2 => ?_))
      · have h2p := h2; simp [wholeD] at h2p
      · exact b_nil (B.weak (b_nil rfl) (.same (.same (.un .nil))))
    · rintro _ rfl
      exact b_cons (s_ret e_bl (fun M v r => r))
end

def sp_law_same_rowsT (K : Fg) : Sp := spG K (fun i : List (List Int) × List (List Int) => [.vl (tTup (tTup tI)) i.1, .vl (tTup (tTup tI)) i.2]) (fun i => i.1 = i.2 ∧ i.2.length ≤ 100000 ∧ ∀ r ∈ i.2, r.length ≤ 100000) tB (fun i => true)
def sp_law_same_rowsL (K : Fg) : Sp := spG K (fun i : List (List Int) × List (List Int) => [.vl (tTup (tTup tI)) i.1, .vl (tLst (tTup tI)) i.2]) (fun i => i.1 = i.2 ∧ i.2.length ≤ 100000 ∧ ∀ r ∈ i.2, r.length ≤ 100000) tB (fun i => true)
section
variable {P : Program} {w : World} {K : Fg} {mg : Str → Option Value} {base : Heap}
theorem sc_law_same_rows : FnScope ["told", "due", "k"] ["told", "due"] (defScope s_law_same_rows) := ⟨rfl, rfl, rfl, by decide +kernel, rfl, by decide +kernel, by decide +kernel⟩
theorem ok_law_same_rowsT {f : Addr} {fd : FuncData} (F : Fun K "_law_same_rows" "_law_same_rows" s_law_same_rows f fd) (b : Bi mg) (C_law_same_row : Fn P w K mg base CX0 2 "_law_same_row" ["told", "due"] (sp_law_same_rowT K)) : FnOk P w K mg base CX0 3 f fd ["told", "due"] (sp_law_same_rowsT K) := by
  refine fn_ok F sc_law_same_rows 1 rfl (fun _ => rfl) (fun cdv A outer s H E hr ⟨told, due⟩ hp => ?_)
  dsimp only at hp ⊢
  obtain ⟨rfl, hz, hrw⟩ := hp
  refine b_cons (s_if (TW.toT (w_or (t_not (t_val (e_isD (dd := dTab told) b.isinstance (e_var 0) (e_Ttuple b.tuple) (fun _ _ r => dp_tab r) (kbT _)))) (fun h => (w_or1 (t_cv (e_lenT b.len (e_var 0)) (e_lenT b.len (e_var 1)) cv_neI))))) (fun h1 => ?_) (fun h1 => ?_))
  · have h1p := h1; simp [isTD, dTab] at h1p
  · refine b_nil ?_
    refine b_cons (s_forR 2 (fun m G' => G' = [.vl (tTup (tTup tI)) told, .vl (tTup (tTup tI)) told, .un]) _ b.range (e_lenT b.len (e_var 1)) (by omega) (Sub.refl _) rfl ?_ ?_ sc_law_same_rows.nd rfl)
    · rintro m _ hm rfl
      have hrow := hrw _ (ix_mem (xs := told) (i := (m : Int)) (by omega) (by omega))
      refine b_cons (s_if (t_not (t_val (e_call C_law_same_row (hr.mono (by decide)) (ix told (m : Int), ix told (m : Int)) (ea_cons (e_ixT (e_var 0) (e_var 2) (atI_ix (by omega) (by omega))) (ea_cons (e_ixT (e_var 1) (e_var 2) (atI_ix (by omega) (by omega))) ea_nil)) (by refine ⟨rfl, ?_⟩; dsimp only; omega)))) (fun h2 => ?_) (fun h2 => ?_))
      · cases h2
      · exact b_nil (B.weak (b_nil rfl) (.same (.same (.un .nil))))
    · rintro _ rfl
      exact b_cons (s_ret e_bl (fun M v r => r))
theorem ok_law_same_rowsL {f : Addr} {fd : FuncData} (F : Fun K "_law_same_rows" "_law_same_rows" s_law_same_rows f fd) (b : Bi mg) (C_law_same_row : Fn P w K mg base CX0 2 "_law_same_row" ["told", "due"] (sp_law_same_rowT K)) : FnOk P w K mg base CX0 3 f fd ["told", "due"] (sp_law_same_rowsL K) := by
  refine fn_ok F sc_law_same_rows 1 rfl (fun _ => rfl) (fun cdv A outer s H E hr ⟨told, due⟩ hp => ?_)
  dsimp only at hp ⊢
  obtain ⟨rfl, hz, hrw⟩ := hp
  refine b_cons (s_if (TW.toT (w_or (t_not (t_val (e_isD (dd := dTab told) b.isinstance (e_var 0) (e_Ttuple b.tuple) (fun _ _ r => dp_tab r) (kbT _)))) (fun h => (w_or1 (t_cv (e_lenT b.len (e_var 0)) (e_lenL b.len (e_var 1)) cv_neI))))) (fun h1 => ?_) (fun h1 => ?_))
  · have h1p := h1; simp [isTD, dTab] at h1p
  · refine b_nil ?_
    refine b_cons (s_forR 2 (fun m G' => G' = [.vl (tTup (tTup tI)) told, .vl (tLst (tTup tI)) told, .un]) _ b.range (e_lenL b.len (e_var 1)) (by omega) (Sub.refl _) rfl ?_ ?_ sc_law_same_rows.nd rfl)
    · rintro m _ hm rfl
      have hrow := hrw _ (ix_mem (xs := told) (i := (m : Int)) (by omega) (by omega))
      refine b_cons (s_if (t_not (t_val (e_call C_law_same_row (hr.mono (by decide)) (ix told (m : Int), ix told (m : Int)) (ea_cons (e_ixT (e_var 0) (e_var 2) (atI_ix (by omega) (by omega))) (ea_cons (e_ixL (e_var 1) (e_var 2) (atI_ix (by omega) (by omega))) ea_nil)) (by refine ⟨rfl, ?_⟩; dsimp only; omega)))) (fun h2 => ?_) (fun h2 => ?_))
      · cases h2
      · exact b_nil (B.weak (b_nil rfl) (.same (.same (.un .nil))))
    · rintro _ rfl
      exact b_cons (s_ret e_bl (fun M v r => r))
end

def seedM (ns : List Int) : Int := ns.foldl (fun s c => (s * 31 + c % 1000003) % 1000003) 17
def cellM (ns : List Int) (k : Int) : Int := if k < ns.length then ix ns k else (seedM ns + 7) * (k + 3) * 69621 % 2147483647
def sp_law_cell (K : Fg) : Sp := spG K (fun i : List Int × Int => [.vl (tSq tI) i.1, .vl tI i.2]) (fun i => i.1.length ≤ 63 ∧ 0 ≤ i.2 ∧ i.2 < 100) tI (fun i => cellM i.1 i.2)
theorem seedM_b (ns : List Int) : 0 ≤ seedM ns ∧ seedM ns < 1000003 := by
  unfold seedM
  suffices h : ∀ (ns : List Int) (s : Int), 0 ≤ s ∧ s < 1000003 → 0 ≤ ns.foldl (fun s c => (s * 31 + c % 1000003) % 1000003) s ∧ ns.foldl (fun s c => (s * 31 + c % 1000003) % 1000003) s < 1000003 by
    exact h ns 17 (by omega)
  intro ns
  induction ns with
  | nil => intro s h; exact h
  | cons c ns ih => intro s h; exact ih _ (by simp only; omega)
theorem sc_law_cell : FnScope ["script", "k", "seed", "cell"] ["script", "k"] (defScope s_law_cell) := ⟨rfl, rfl, rfl, by decide +kernel, rfl, by decide +kernel, by decide +kernel⟩
section
variable {P : Program} {w : World} {K : Fg} {mg : Str → Option Value} {base : Heap}
theorem ok_law_cell {f : Addr} {fd : FuncData} (F : Fun K "_law_cell" "_law_cell" s_law_cell f fd) (b : Bi mg) : FnOk P w K mg base CX0 1 f fd ["script", "k"] (sp_law_cell K) := by
  refine fn_ok F sc_law_cell 2 rfl (fun _ => rfl) (fun cdv A outer s H E hr ⟨ns, k⟩ hp => ?_)
  dsimp only at hp ⊢
  obtain ⟨h63, hk0, hk1⟩ := hp
  refine b_cons (s_if (t_cv (e_var 1) (e_lenS b.len (e_var 0)) cv_lt) (fun h => ?_) (fun h => ?_))
  · have h := of_decide_eq_true h
    refine b_cons (s_ret (e_ixS (e_var 0) (e_var 1) (atI_ix (by omega) h)) (fun M v r => ?_))
    show v = V.int (cellM ns k)
    unfold cellM; rw [if_pos h]; exact r
  · have h := of_decide_eq_false h
    refine b_nil ?_
    refine b_cons (s_set 2 e_int ?_ sc_law_cell.nd)
    refine b_cons (s_forS 3 (fun m G' => G' = [.vl (tSq tI) ns, .vl tI k, .vl tI (seedM (ns.take m)), .un]) [.vl (tSq tI) ns, .vl tI k, .vl tI 17, .un] (e_var 0) (Sub.refl _) rfl ?_ ?_ sc_law_cell.nd rfl)
    · rintro m x _ hx rfl
      refine b_cons (s_set 2 (e_mod (e_intI b.int (e_add (e_mulR (e_var 2) e_int (by decide)) (e_mod (e_intI b.int (e_var 3)) e_int (by decide)))) e_int (by decide)) ?_ sc_law_cell.nd)
      refine B.weak (b_nil rfl) ?_
      have e : seedM (ns.take (m + 1)) = (seedM (ns.take m) * 31 + x % 1000003) % 1000003 := by
        unfold seedM; rw [take_snoc hx, List.foldl_append]; rfl
      rw [e]
      exact .same (.same (.same (.un .nil)))
    · rintro _ rfl
      have hb := seedM_b ns
      refine b_cons (s_ret (e_mod (e_intI b.int (e_mulR (e_mulL (e_add (e_var 2) e_int) (e_add (e_var 1) e_int) ?_) e_int (by decide))) e_int (by decide)) (fun M v r => ?_))
      · rw [List.take_length]; omega
      · show v = V.int (cellM ns k)
        unfold cellM; rw [if_neg h]
        rw [List.take_length] at r
        exact r
end

def row8Sizes : List Int := (((List.replicate 9 [40]).flatten ++ (List.replicate 2 [81]).flatten) ++ [4, 40]) ++ (List.replicate 20 [150]).flatten
def downSizes : List Int := (List.range 40).map fun k : Nat => 40 - (k : Int)
def askFs (i : Int × Int × List (List Int)) : List Cl := [⟨tI, i.1⟩, ⟨tI, i.2.1⟩, ⟨tLst (tTup tI), i.2.2⟩]
structure AskOk (T : List (List (List Int))) (i : Int × Int × List (List Int)) : Prop where
  side : 0 ≤ i.1 ∧ i.1 < 3
  k : 0 ≤ i.2.1 ∧ i.2.1 < (ix T i.1).length
  cnt : cntK (ix T i.1) (reachTab (ix T i.1)) i.2.1 < 8000
  due : i.2.2 = landsM (ix T i.1) i.2.1
theorem land_len {kinds : List (List Int)} {tb : List (List Bool)} : ∀ (f : Nat) (t : Int), (land kinds tb f t).length ≤ cntW kinds tb f t
  | 0, t => by simp [land]
  | f + 1, t => by
    unfold land cntW
    rw [List.length_flatMap]
    have e : (ix kinds t).map (fun u => 1 + (if passes tb u = true then cntW kinds tb f u else 0)) = (List.range (ix kinds t).length).map fun e : Nat => 1 + (if passes tb (ix (ix kinds t) (e : Int)) = true then cntW kinds tb f (ix (ix kinds t) (e : Int)) else 0) := by
      conv => lhs; rw [← ix_rangeMap (ix kinds t)]
      rw [List.map_map]; rfl
    rw [e]
    generalize List.range (ix kinds t).length = es
    induction es with
    | nil => simp
    | cons e es ih =>
      rw [List.map_cons, List.map_cons, List.sum_cons, List.sum_cons]
      refine Nat.add_le_add ?_ ih
      split
      · simp
      · split
        · rename_i hg
          rw [if_pos (goes_passes hg), List.length_map]
          have := land_len (kinds := kinds) (tb := tb) f (ix (ix kinds t) (e : Int))
          omega
        · simp
theorem way_len {kinds : List (List Int)} {tb : List (List Bool)} : ∀ (f : Nat) (t : Int), ∀ x ∈ land kinds tb f t, x.length ≤ f
  | 0, t, x, h => by cases h
  | f + 1, t, x, h => by
    unfold land at h
    obtain ⟨e, _, hx⟩ := List.mem_flatMap.mp h
    split at hx
    · rw [List.mem_singleton.mp hx]; simp
    · split at hx
      · obtain ⟨y, hy, rfl⟩ := List.mem_map.mp hx
        have := way_len f _ y hy
        simp; omega
      · cases hx
def splaw (K : Fg) : Sp := spG K (fun i : List Int => [.vl (tSq tI) i]) (fun i => i.length ≤ 63) tB (fun _ => true)
theorem ix3 {α : Type} [Inhabited α] {Q : α → Prop} {a b c : α} (ha : Q a) (hb : Q b) (hc : Q c) (j : Int) (h0 : 0 ≤ j) (h1 : j < 3) : Q (ix [a, b, c] j) := by
  have : j = 0 ∨ j = 1 ∨ j = 2 := by omega
  rcases this with rfl | rfl | rfl
  · exact ha
  · exact hb
  · exact hc
theorem ixMap {α β : Type} [Inhabited α] [Inhabited β] (f : α → β) {xs : List α} {j : Int} (h0 : 0 ≤ j) (h1 : j < xs.length) : ix (xs.map f) j = f (ix xs j) := by
  apply ix_getElem h0
  rw [List.getElem?_map, ix_pos h0 h1]; rfl
theorem emod_in {n : Int} (h : 0 < n) (xs : List Int) : inR n (xs.map fun j => j % n) := fun t ht => by
  obtain ⟨d, _, rfl⟩ := List.mem_map.mp ht
  exact ⟨Int.emod_nonneg _ (by omega), Int.emod_lt_of_pos _ h⟩
section
variable {P : Program} {w : World} {K : Fg} {mg : Str → Option Value} {base : Heap}
abbrev N8 : List Str := ["script", "row", "maze", "order", "k", "kinds", "tables", "handed", "kind", "books", "picks", "digit", "lively", "asked", "side", "reach", "live", "items", "item"]
theorem sc_law : FnScope ["script", "row", "maze", "order", "k", "kinds", "tables", "handed", "kind", "books", "picks", "digit", "lively", "asked", "side", "reach", "live", "items", "item"] ["script"] (defScope slaw) := ⟨rfl, rfl, rfl, by decide +kernel, rfl, by decide +kernel, by decide +kernel⟩
theorem oklaw {C : Addr} (hC : Cls K C) (hna : NoAttr K C "kinds") {f : Addr} {fd : FuncData} (F : Fun K "law" "law" slaw f fd) (b : Bi mg)
    (C_law_digits : Fn P w K mg base CX0 1 "_law_digits" ["cell", "sizes"] (sp_law_digits K)) (C_law_cell : Fn P w K mg base CX0 1 "_law_cell" ["script", "k"] (sp_law_cell K))
    (C_law_maze_sizes : Fn P w K mg base CX0 1 "_law_maze_sizes" ["n", "e"] (sp_law_maze_sizes K)) (C_law_maze : Fn P w K mg base CX0 2 "_law_maze" ["row", "n", "e"] (sp_law_maze K))
    (C_law_broad : Fn P w K mg base CX0 1 "_law_broad" ["kinds", "row", "limit"] (sp_law_broad K)) (C_law_order : Fn P w K mg base CX0 1 "_law_order" ["row", "many"] (sp_law_order K)) (C_law_renumbered : Fn P w K mg base CX0 2 "_law_renumbered" ["kinds", "order"] (sp_law_renumbered K))
    (CBook : Mkr P w K mg base 4 "Book" C ["self", "kinds"] (spBook__init__ K C)) (CAdd : AddC P w K mg base 6 C ["self", "other"] (spBook__add__ K C))
    (C_law_sum : Fn P w K mg base CX0 1 "_law_sum" ["left", "right"] (sp_law_sum K)) (C_law_reach : Fn P w K mg base CX0 1 "_law_reach" ["kinds"] (spRT K)) (C_law_live : Fn P w K mg base CX0 2 "_law_live" ["kinds", "reach"] (sp_law_live K))
    (C_law_way_items : Fn P w K mg base CX0 2 "_law_way_items" ["kinds", "reach"] (sp_law_way_items K)) (C_law_landings : Fn P w K mg base CX0 1 "_law_landings" ["kinds", "reach", "live", "k"] (sp_law_landings K))
    (Clive_kinds : Fn P w K mg base CX0 6 "live_kinds" ["book"] (splive_kinds K C)) (Clandings : Fn P w K mg base CX0 6 "landings" ["book", "kind"] (splandings K C))
    (C_law_same_rowL : Fn P w K mg base CX0 2 "_law_same_row" ["told", "due"] (sp_law_same_rowL K)) (C_law_same_rowsT : Fn P w K mg base CX0 3 "_law_same_rows" ["told", "due"] (sp_law_same_rowsT K)) (C_law_same_rowsL : Fn P w K mg base CX0 3 "_law_same_rows" ["told", "due"] (sp_law_same_rowsL K))
    (C_law_picked : Fn P w K mg base CX0 1 "_law_picked" ["many", "row"] (sp_law_picked K)) : FnOk P w K mg base CX0 8 f fd ["script"] (splaw K) := by
  refine fn_ok F sc_law 18 rfl (fun _ => rfl) (fun cdv A outer s H E hr script hp => ?_)
  have cell : ∀ k : Int, 0 ≤ k → k < 100 → (script.length ≤ 63 ∧ (0:Int) ≤ k ∧ k < 100) := fun k a c => ⟨hp, a, c⟩
  refine b_cons (s_set 1 (e_call C_law_digits (hr.mono (by decide)) (cellM script 2, row8Sizes) (ea_cons (e_call C_law_cell (hr.mono (by decide)) (script, 2) (ea_cons (e_var 0) (ea_cons e_int ea_nil)) (cell 2 (by omega) (by omega))) (ea_cons (EL.toE (el_cat (EL.toE (el_cat (EL.toE (el_cat (EL.toE (el_rep (EL.toE (el_lst (eh_cons e_int eh_nil))) e_int (by decide) (by decide))) (EL.toE (el_rep (EL.toE (el_lst (eh_cons e_int eh_nil))) e_int (by decide) (by decide))) (by decide))) (EL.toE (el_lst (eh_cons e_int (eh_cons e_int eh_nil)))) (by decide))) (EL.toE (el_rep (EL.toE (el_lst (eh_cons e_int eh_nil))) e_int (by decide) (by decide))) (by decide))) ea_nil)) (show row8Sizes.length ≤ 3000 ∧ ∀ s ∈ row8Sizes, 0 < s ∧ s < 1073741824 from by decide)) ?_ sc_law.nd)
  dsimp only
  have hrl := digits_len (cellM script 2) row8Sizes
  rw [show row8Sizes.length = 33 from by decide] at hrl
  generalize digitsM (cellM script 2) row8Sizes = row at hrl ⊢
  have hc11 : (cut row (some 11) none).length = 22 := by rw [cut_from _ (by decide), List.length_drop, hrl]; rfl
  refine b_cons (s_setX 2 (ex_call (PR := fun y => Good y 40 6) C_law_maze (hr.mono (by decide)) (EA.toX (ea_cons (e_call C_law_digits (hr.mono (by decide)) (cellM script 0, mazeSizesM 40 4) (ea_cons (e_call C_law_cell (hr.mono (by decide)) (script, 0) (ea_cons (e_var 0) (ea_cons e_int ea_nil)) (cell 0 (by omega) (by omega))) (ea_cons (e_call C_law_maze_sizes (hr.mono (by decide)) (40, 4) (ea_cons e_int (ea_cons e_int ea_nil)) rfl) ea_nil)) (show (mazeSizesM 40 4).length ≤ 3000 ∧ ∀ s ∈ mazeSizesM 40 4, 0 < s ∧ s < 1073741824 from by decide)) (ea_cons e_int (ea_cons e_int ea_nil)))) (fun ss hss => ⟨(digitsM (cellM script 0) (mazeSizesM 40 4), 40, 4), hss.symm, ⟨rfl, digits_maze _⟩, fun y hy => hy⟩)) ?_ sc_law.nd)
  intro m0 hm0
  refine b_cons (s_setX 2 (ex_call (PR := fun y => Good y 40 20) C_law_broad (hr.mono (by decide)) (EA.toX (ea_cons (e_var 2) (ea_cons (EL.toE (el_slice (e_var 1) (eo_some e_int) eo_none)) (ea_cons e_int ea_nil)))) (fun ss hss => ⟨(m0, cut row (some 11) none, 20), hss.symm, ⟨hm0.mono (by omega) (by omega), by dsimp only; omega, by dsimp only; omega⟩, fun y hy => hy⟩)) ?_ sc_law.nd)
  intro maze hc
  have hcp := hc.pos
  have hcl := hc.len
  have hdl : (digitsM (cellM script 1) downSizes).length = 40 := by rw [digits_len]; decide
  refine b_cons (s_setX 3 (ex_call (PR := fun y => (y.length : Int) = maze.length ∧ inR maze.length y) C_law_order (hr.mono (by decide)) (EA.toX (ea_cons (e_call C_law_digits (hr.mono (by decide)) (cellM script 1, downSizes) (ea_cons (e_call C_law_cell (hr.mono (by decide)) (script, 1) (ea_cons (e_var 0) (ea_cons e_int ea_nil)) (cell 1 (by omega) (by omega))) (ea_cons (EL.toE (el_lc (lc_R (f := fun k : Nat => 40 - (k : Int)) (own := [("k", 4)]) b.range e_int (by decide) 4 (fun s0 H C cl fp m hm => e_sub e_int (e_var 4)) (blkOk_by (N := N8) (sc := defScope slaw) (by decide +kernel)) (fun _ _ _ _ _ => pg_name sc_law.nd rfl (by first | exact Or.inl rfl | exact Or.inr rfl))) rfl sc_law.nd)) ea_nil)) (show downSizes.length ≤ 3000 ∧ ∀ s ∈ downSizes, 0 < s ∧ s < 1073741824 from by decide)) (ea_cons (e_lenT b.len (e_var 2)) ea_nil))) (fun ss hss => ⟨(digitsM (cellM script 1) downSizes, (maze.length : Int)), hss.symm, ⟨by dsimp only; omega, by dsimp only; omega⟩, fun y hy => hy⟩)) (fun order ho => ?_) sc_law.nd)
  refine b_cons (s_setX 5 (ex_call (PR := fun y => y.length = maze.length ∧ Good y 40 20) C_law_renumbered (hr.mono (by decide)) (EA.toX (ea_cons (e_var 2) (ea_cons (e_var 3) ea_nil))) (fun ss hss => ⟨(maze, order), hss.symm, ⟨hc.mono (by omega) (by omega), by have := ho.1; dsimp only; omega, ho.2⟩, fun y hy => ⟨hy.1, hy.2 40 20 (by omega) hc⟩⟩)) ?_ sc_law.nd)
  rintro kinds ⟨hkl, ha⟩
  have hap := ha.pos
  have hal := ha.len
  have hs := sum_good ha hc (by omega)
  have hsl : (sumM kinds maze).length = 1 + kinds.length + maze.length := by unfold sumM; rw [List.length_append, List.length_append, moved_len, moved_len]; simp
  have hfit : ∀ T : List (List Int), Good T 81 20 → (T.length ≤ 81 ∧ ∀ x ∈ T, x.length ≤ 20) := fun T g => ⟨by have := g.len; omega, fun x hx => by have := (g.row x hx).1; omega⟩
  have fa := hfit kinds (ha.mono (by omega) (by omega))
  have fc := hfit maze (hc.mono (by omega) (by omega))
  have hrow : ∀ x ∈ kinds, x.length ≤ 1000000 := fun x hx => by have := fa.2 x hx; omega
  have h100 : Good kinds 100 100 ∧ Good maze 100 100 := ⟨ha.mono (by omega) (by omega), hc.mono (by omega) (by omega)⟩
  refine b_cons (s_own 6 (el_lst (eh_cons (e_var 5) (eh_cons (e_var 2) (eh_cons (e_call C_law_sum (hr.mono (by decide)) (kinds, maze) (ea_cons (e_var 5) (ea_cons (e_var 2) ea_nil)) h100) eh_nil)))) ?_ sc_law.nd)
  refine b_freeze 6 rfl ?_
  refine b_cons (s_lc 7 (lc_T (f := fun x : List Int => x) (xs := kinds) (own := [("kind", 8)]) (e_var 5) 8 (fun s0 H C cl fp m x hx => EL.toE (el_listT b.list (e_var 8))) (blkOk_by (N := N8) (sc := defScope slaw) (by decide +kernel)) (by omega) (fun _ _ _ _ _ => pg_name sc_law.nd rfl (by first | exact Or.inl rfl | exact Or.inr rfl))) ?_ rfl sc_law.nd)
  rw [List.map_id']
  refine b_freeze 7 rfl ?_
  refine b_cons (s_own 9 (el_lst (eh_cons (TL.E.as (t := tBook C) (y := kinds) (e_mk CBook (hr.mono (by decide)) (dTabL kinds, kinds) (ea_cons (TL.E.as (t := tD) (y := dTabL kinds) (e_var 7) (fun _ _ r => dp_tabL r)) ea_nil) (show (Fit 2 (dTabL kinds) ∧ frz (dTabL kinds) = dTab kinds) ∧ Good kinds 1000 1000 from ⟨⟨fit_tabL (by omega) hrow, frz_dTabL kinds⟩, ha.mono (by omega) (by omega)⟩)) (fun _ _ r => r)) (eh_cons (TL.E.as (t := tBook C) (y := maze) (e_mk CBook (hr.mono (by decide)) (dTab maze, maze) (ea_cons (TL.E.as (t := tD) (y := dTab maze) (e_var 2) (fun _ _ r => dp_tab r)) ea_nil) (show (Fit 2 (dTab maze) ∧ frz (dTab maze) = dTab maze) ∧ Good maze 1000 1000 from ⟨⟨fit_tab (by omega) (fun x hx => by have := fc.2 x hx; omega), frz_dTab maze⟩, hc.mono (by omega) (by omega)⟩)) (fun _ _ r => r)) eh_nil))) ?_ sc_law.nd)
  refine b_cons (s_app 9 rfl (e_addOb CAdd (hr.mono (by decide)) (kinds, maze) (TL.E.is (e_ixOw 9 rfl e_int (atI_ix (by simp only [List.length_cons, List.length_nil]; omega) (by simp only [List.length_cons, List.length_nil]; omega))) (show ix [kinds, maze] 0 = kinds from rfl)) (TL.E.is (e_ixOw 9 rfl e_int (atI_ix (by simp only [List.length_cons, List.length_nil]; omega) (by simp only [List.length_cons, List.length_nil]; omega))) (show ix [kinds, maze] 1 = maze from rfl)) rfl h100) (by simp only [List.length_cons, List.length_nil]; omega) ?_)
  dsimp only
  refine b_freeze 9 rfl ?_
  have hT : ∀ j : Int, 0 ≤ j → j < 3 → Good (ix [kinds, maze, sumM kinds maze] j) 81 20 := ix3 (Q := fun x => Good x 81 20) (ha.mono (by omega) (by omega)) (hc.mono (by omega) (by omega)) (hs.mono (by omega) (by omega))
  have hT0 : ix [kinds, maze, sumM kinds maze] 0 = kinds := rfl
  have hT1 : ix [kinds, maze, sumM kinds maze] 1 = maze := rfl
  have hT2 : (ix [kinds, maze, sumM kinds maze] 2).length = (sumM kinds maze).length := rfl
  show B _ [.vl (tSq tI) script, .vl (tLst tI) row, .vl (tTup (tTup tI)) maze, .vl (tLst tI) order, .un, .vl (tTup (tTup tI)) kinds, .vl (tLst (tTup (tTup tI))) [kinds, maze, sumM kinds maze], .vl (tLst (tLst tI)) kinds, .un, .vl (tLst (tBook C)) [kinds, maze, sumM kinds maze], .un, .un, .un, .un, .un, .un, .un, .un, .un] _ _
  have hTl : ([kinds, maze, sumM kinds maze] : List (List (List Int))).length = 3 := rfl
  generalize [kinds, maze, sumM kinds maze] = T at hT hT0 hT1 hT2 hTl ⊢
  have hc8 : (cut row none (some 8)).length ≤ 33 := by unfold cut; rw [List.length_take, List.length_drop]; omega
  have hc9 : (cut row (some 9) (some 11)).length ≤ 33 := by unfold cut; rw [List.length_take, List.length_drop]; omega
  have hpl := picked_len (many := (kinds.length : Int)) (row := cut row none (some 8)) (by omega)
  refine b_cons (s_own 10 (el_lst (s := tLst tI) (eh_cons (e_call C_law_picked (hr.mono (by decide)) ((kinds.length : Int), cut row none (some 8)) (ea_cons (e_lenT b.len (e_var 5)) (ea_cons (EL.toE (el_slice (e_var 1) eo_none (eo_some e_int))) ea_nil)) (show 1 ≤ (kinds.length : Int) ∧ (cut row none (some 8)).length ≤ 1000 from ⟨by omega, by omega⟩)) (eh_cons (EL.toE (el_lst (eh_cons (e_mod (e_intI b.int (e_ixL (e_var 1) e_int (atI_ix (by omega) (by omega)))) (e_lenT b.len (e_var 2)) (by omega)) eh_nil))) (eh_cons (EL.toE (el_cat (EL.toE (el_lst (eh_cons e_int eh_nil))) (EL.toE (el_lc (lc_L (f := fun j : Int => j % ((ix T 2).length : Int)) (xs := cut row (some 9) (some 11)) (own := [("digit", 11)]) (EL.toE (el_slice (e_var 1) (eo_some e_int) (eo_some e_int))) 11 (fun s0 H C cl fp m x hx => e_mod (e_intI b.int (e_var 11)) (e_lenT b.len (e_ixL (e_var 6) e_int (atI_ix (by omega) (by omega)))) (by omega)) (blkOk_by (N := N8) (sc := defScope slaw) (by decide +kernel)) (by omega) (fun _ _ _ _ _ => pg_name sc_law.nd rfl (by first | exact Or.inl rfl | exact Or.inr rfl))) rfl sc_law.nd)) (by simp only [List.length_cons, List.length_nil, List.length_map]; omega))) eh_nil)))) ?_ sc_law.nd)
  refine b_freeze 10 rfl ?_
  have hPk : ∀ j : Int, 0 ≤ j → j < 3 → inR (ix T j).length (ix [pickedM (kinds.length : Int) (cut row none (some 8)), [ix row 8 % (maze.length : Int)], [0] ++ (cut row (some 9) (some 11)).map fun j : Int => j % ((ix T 2).length : Int)] j) ∧ (ix [pickedM (kinds.length : Int) (cut row none (some 8)), [ix row 8 % (maze.length : Int)], [0] ++ (cut row (some 9) (some 11)).map fun j : Int => j % ((ix T 2).length : Int)] j).length ≤ 1000 := fun j j0 j1 => by
    have : j = 0 ∨ j = 1 ∨ j = 2 := by omega
    rcases this with rfl | rfl | rfl
    · rw [hT0]; exact ⟨picked_in (by omega), hpl⟩
    · rw [hT1]
      refine ⟨fun t ht => ?_, by show (1 : Nat) ≤ 1000; decide⟩
      have ht : t = ix row 8 % (maze.length : Int) := List.mem_singleton.mp ht
      rw [ht]; exact ⟨Int.emod_nonneg _ (by omega), Int.emod_lt_of_pos _ (by omega)⟩
    · refine ⟨fun t ht => ?_, ?_⟩
      · rcases List.mem_append.mp ht with z | z
        · rw [List.mem_singleton.mp z]; omega
        · exact emod_in (by omega) _ t z
      · show ([0] ++ (cut row (some 9) (some 11)).map fun j : Int => j % ((ix T 2).length : Int)).length ≤ 1000
        simp only [List.length_append, List.length_cons, List.length_nil, List.length_map]; omega
  have hPl : ([pickedM (kinds.length : Int) (cut row none (some 8)), [ix row 8 % (maze.length : Int)], [0] ++ (cut row (some 9) (some 11)).map fun j : Int => j % ((ix T 2).length : Int)] : List (List Int)).length = 3 := rfl
  show B _ [.vl (tSq tI) script, .vl (tLst tI) row, .vl (tTup (tTup tI)) maze, .vl (tLst tI) order, .un, .vl (tTup (tTup tI)) kinds, .vl (tLst (tTup (tTup tI))) T, .vl (tLst (tLst tI)) kinds, .un, .vl (tLst (tBook C)) T, .vl (tLst (tLst tI)) [pickedM (kinds.length : Int) (cut row none (some 8)), [ix row 8 % (maze.length : Int)], [0] ++ (cut row (some 9) (some 11)).map fun j : Int => j % ((ix T 2).length : Int)], .un, .un, .un, .un, .un, .un, .un, .un] _ _
  generalize [pickedM (kinds.length : Int) (cut row none (some 8)), [ix row 8 % (maze.length : Int)], [0] ++ (cut row (some 9) (some 11)).map fun j : Int => j % ((ix T 2).length : Int)] = picks at hPk hPl ⊢
  have hlk : ∀ j : Int, 0 ≤ j → j < 3 → (liveK (ix T j)).length ≤ 1000 := fun j j0 j1 => by
    have hg := (hT j j0 j1).len
    unfold liveK; rw [List.length_map]
    have := List.length_filter_le (fun k : Nat => ix (liveM (ix T j)) (k : Int)) (List.range (ix T j).length)
    rw [List.length_range] at this; omega
  refine b_cons (s_own 12 (el_lst (s := tLst tI) eh_nil) ?_ sc_law.nd)
  refine b_cons (s_own 13 (el_lst (s := tTu askFs) eh_nil) ?_ sc_law.nd)
  refine b_cons (s_forR 14 (fun m G' => ∃ xs, ((∀ it ∈ xs, AskOk T it) ∧ xs.length ≤ 1000 * m) ∧ G' = [.vl (tSq tI) script, .vl (tLst tI) row, .vl (tTup (tTup tI)) maze, .vl (tLst tI) order, .un, .vl (tTup (tTup tI)) kinds, .vl (tLst (tTup (tTup tI))) T, .vl (tLst (tLst tI)) kinds, .un, .vl (tLst (tBook C)) T, .vl (tLst (tLst tI)) picks, .un, .ow (tLst tI) ((T.take m).map liveK), .ow (tTu askFs) xs, .un, .un, .un, .un, .un]) _ b.range e_int (by decide) (Sub.refl _) ⟨[], ⟨(fun it h => by cases h), by simp⟩, rfl⟩ ?_ ?_ sc_law.nd rfl)
  · rintro m _ hm ⟨xs, ⟨hxs, hxl⟩, rfl⟩
    have hg := hT (m : Int) (by omega) (by omega)
    have hgl := hg.len
    have hgp := hg.pos
    have hlv := hlk (m : Int) (by omega) (by omega)
    obtain ⟨hpk, hpkl⟩ := hPk (m : Int) (by omega) (by omega)
    have hTm : T[m]? = some (ix T (m : Int)) := by have := ix_pos (xs := T) (i := (m : Int)) (by omega) (by omega); rw [Int.toNat_natCast] at this; exact this
    rw [take_snoc hTm, List.map_append]
    have htk : ((T.take m).map liveK).length = m := by rw [List.length_map, List.length_take]; omega
    generalize (T.take m).map liveK = lv0 at htk ⊢
    generalize eks : ix T (m : Int) = ks at hg hgl hgp hlv hpk
    have hg100 := hg.mono (n' := 100) (e' := 100) (by omega) (by omega)
    have hg1000 := hg.mono (n' := 1000) (e' := 1000) (by omega) (by omega)
    have W := web_of hg1000 (by omega)
    refine b_cons (s_set 15 (e_call C_law_reach (hr.mono (by decide)) ks (ea_cons (TL.E.is (e_ixL (e_var 6) (e_var 14) (atI_ix (by omega) (by omega))) eks) ea_nil) hg1000) ?_ sc_law.nd)
    refine b_cons (s_set 16 (e_call C_law_live (hr.mono (by decide)) (ks, reachTab ks) (ea_cons (TL.E.is (e_ixL (e_var 6) (e_var 14) (atI_ix (by omega) (by omega))) eks) (ea_cons (e_var 15) ea_nil)) (show Good ks 100 100 ∧ Wb ks (reachTab ks) from ⟨hg100, W⟩)) ?_ sc_law.nd)
    dsimp only
    have hall : (aliveL ks (reachTab ks) ks.length).length = ks.length := by unfold aliveL; simp
    refine b_cons (s_app 12 rfl (TL.E.is (EL.toE (el_lc (lc_RF (f := fun k : Nat => (k : Int)) (g := fun k : Nat => ix (aliveL ks (reachTab ks) ks.length) (k : Int)) (own := [("k", 4)]) b.range (e_lenL b.len (e_var 16)) (by omega) 4 (fun s0 H C cl fp j hj => t_val (e_ixL (e_var 16) (e_var 4) (atI_ix (by omega) (by omega)))) (fun s0 H C cl fp j hj hd => e_var 4) (blkOk_by (N := N8) (sc := defScope slaw) (by decide +kernel)) (fun _ _ _ _ _ => pg_name sc_law.nd rfl (by first | exact Or.inl rfl | exact Or.inr rfl))) rfl sc_law.nd)) (x' := liveK ks) (by rw [hall, Int.toNat_natCast]; rfl)) (by omega) ?_)
    have hlx : ix (lv0 ++ [liveK ks]) (m : Int) = liveK ks := ix_getElem (by omega) (by rw [Int.toNat_natCast, List.getElem?_append_right (by omega), htk, Nat.sub_self]; rfl)
    refine b_cons (s_if (t_not (t_val (e_call C_law_same_rowL (hr.mono (by decide)) (liveK ks, liveK ks) (ea_cons (e_call Clive_kinds (hr.mono (by decide)) ks (ea_cons (TL.E.is (e_ixL (e_var 9) (e_var 14) (atI_ix (by omega) (by omega))) eks) ea_nil) hg1000) (ea_cons (TL.E.is (e_ixOw 12 rfl (e_var 14) (atI_ix (by rw [List.length_append, List.length_singleton]; omega) (by rw [List.length_append, List.length_singleton]; omega))) hlx) ea_nil)) ⟨rfl, by dsimp only; omega⟩))) (fun h => by cases h) (fun _ => b_nil ?_))
    refine b_cons (s_setX 17 (ex_call (PR := fun y => y.length = ks.length ∧ ∀ k : Int, 0 ≤ k → k < ks.length → (cntK ks (reachTab ks) k : Int) ≤ ix y k) C_law_way_items (hr.mono (by decide)) (EA.toX (ea_cons (TL.E.is (e_ixL (e_var 6) (e_var 14) (atI_ix (by omega) (by omega))) eks) (ea_cons (e_var 15) ea_nil))) (fun ss hss => ⟨(ks, reachTab ks), hss.symm, ⟨hg100, W⟩, fun y hy => hy⟩)) ?_ sc_law.nd)
    rintro items ⟨hil, hic⟩
    refine b_cons (s_forL 4 (fun j G' => ∃ xs, ((∀ it ∈ xs, AskOk T it) ∧ xs.length ≤ 1000 * m + j) ∧ G' = [.vl (tSq tI) script, .vl (tLst tI) row, .vl (tTup (tTup tI)) maze, .vl (tLst tI) order, .un, .vl (tTup (tTup tI)) kinds, .vl (tLst (tTup (tTup tI))) T, .vl (tLst (tLst tI)) kinds, .un, .vl (tLst (tBook C)) T, .vl (tLst (tLst tI)) picks, .un, .ow (tLst tI) (lv0 ++ [liveK ks]), .ow (tTu askFs) xs, .vl tI (m : Int), .vl (tLst (tLst tB)) (reachTab ks), .vl (tLst tB) (aliveL ks (reachTab ks) ks.length), .vl (tLst tI) items, .un]) _ (e_ixL (e_var 10) (e_var 14) (atI_ix (by omega) (by omega))) (Sub.refl _) ⟨xs, ⟨hxs, by omega⟩, rfl⟩ ?_ ?_ sc_law.nd rfl)
    · rintro j k _ hj ⟨ys, ⟨hys, hyl⟩, rfl⟩
      have hk := hpk k (List.mem_of_getElem? hj)
      have hjl := (List.getElem?_eq_some_iff.mp hj).1
      have hck := hic k hk.1 hk.2
      refine b_cut (fun G' => ∃ xs, ((∀ it ∈ xs, AskOk T it) ∧ xs.length ≤ 1000 * m + (j + 1)) ∧ G' = [.vl (tSq tI) script, .vl (tLst tI) row, .vl (tTup (tTup tI)) maze, .vl (tLst tI) order, .vl tI k, .vl (tTup (tTup tI)) kinds, .vl (tLst (tTup (tTup tI))) T, .vl (tLst (tLst tI)) kinds, .un, .vl (tLst (tBook C)) T, .vl (tLst (tLst tI)) picks, .un, .ow (tLst tI) (lv0 ++ [liveK ks]), .ow (tTu askFs) xs, .vl tI (m : Int), .vl (tLst (tLst tB)) (reachTab ks), .vl (tLst tB) (aliveL ks (reachTab ks) ks.length), .vl (tLst tI) items, .un]) (s_if (t_cv (e_ixL (e_var 17) (e_var 4) (atI_ix (by omega) (by omega))) e_int cv_lt) (fun h => ?_) (fun h => ?_)) ?_
      · have h := of_decide_eq_true h
        refine b_cons (s_app 13 rfl (e_tu ((m : Int), k, landsM ks k) (ea_cons (e_var 14) (ea_cons (e_var 4) (ea_cons (e_call C_law_landings (hr.mono (by decide)) (ks, reachTab ks, aliveL ks (reachTab ks) ks.length, k) (ea_cons (TL.E.is (e_ixL (e_var 6) (e_var 14) (atI_ix (by omega) (by omega))) eks) (ea_cons (e_var 15) (ea_cons (e_var 16) (ea_cons (e_var 4) ea_nil)))) (show ((Good ks 100 100 ∧ Wb ks (reachTab ks)) ∧ aliveL ks (reachTab ks) ks.length = aliveL ks (reachTab ks) ks.length) ∧ (0 ≤ k ∧ k < ks.length) ∧ cntK ks (reachTab ks) k < 8000 from ⟨⟨⟨hg100, W⟩, rfl⟩, hk, by omega⟩)) ea_nil)))) (by omega) ?_)
        refine b_nil ⟨_, ⟨fun it hit => ?_, by rw [List.length_append, List.length_singleton]; omega⟩, rfl⟩
        rcases List.mem_append.mp hit with z | z
        · exact hys it z
        · rw [List.mem_singleton.mp z]
          refine ⟨⟨by show (0 : Int) ≤ (m : Int); omega, by show (m : Int) < 3; omega⟩, ?_, ?_, ?_⟩
          · show 0 ≤ k ∧ k < (ix T (m : Int)).length; rw [eks]; exact hk
          · show cntK (ix T (m : Int)) (reachTab (ix T (m : Int))) k < 8000; rw [eks]; omega
          · show landsM ks k = landsM (ix T (m : Int)) k; rw [eks]
      · exact b_nil ⟨ys, ⟨hys, by omega⟩, rfl⟩
      rintro _ ⟨zs, ⟨hzs, hzl⟩, rfl⟩
      exact B.weak (b_nil ⟨zs, ⟨hzs, hzl⟩, rfl⟩) (.same (.same (.same (.same (.un (.same (.same (.same (.un (.same (.same (.un (.same (.same (.same (.same (.same (.same (.un .nil)))))))))))))))))))
    · rintro _ ⟨ys, ⟨hys, hyl⟩, rfl⟩
      exact B.weak (b_nil ⟨ys, ⟨hys, by omega⟩, by rw [List.map_singleton]⟩) (.same (.same (.same (.same (.un (.same (.same (.same (.un (.same (.same (.un (.same (.same (.un (.un (.un (.un (.un .nil)))))))))))))))))))
  rintro _ ⟨xs, ⟨hxs, hxl⟩, rfl⟩
  have hTt : T.take (3 : Int).toNat = T := List.take_of_length_le (by omega)
  rw [hTt]
  have hxl3 : xs.length ≤ 3000 := hxl
  have hL : ∀ j : Int, 0 ≤ j → j < 3 → ix (T.map liveK) j = liveK (ix T j) := fun j h0 h1 => ixMap _ h0 (by omega)
  have hLl : (T.map liveK).length = 3 := by rw [List.length_map, hTl]
  generalize T.map liveK = L at hL hLl ⊢
  refine b_freeze 12 rfl ?_
  refine b_freeze 13 rfl ?_
  have hcx : ∀ it ∈ cut xs none (some 2), it ∈ xs := fun it h => by unfold cut at h; exact List.mem_of_mem_drop (List.mem_of_mem_take h)
  have hcxl : (cut xs none (some 2)).length ≤ 3000 := by unfold cut; rw [List.length_take, List.length_drop]; omega
  refine b_cons (s_forL 18 (fun m G' => G' = [.vl (tSq tI) script, .vl (tLst tI) row, .vl (tTup (tTup tI)) maze, .vl (tLst tI) order, .un, .vl (tTup (tTup tI)) kinds, .vl (tLst (tTup (tTup tI))) T, .vl (tLst (tLst tI)) kinds, .un, .vl (tLst (tBook C)) T, .vl (tLst (tLst tI)) picks, .un, .vl (tLst (tLst tI)) L, .vl (tLst (tTu askFs)) xs, .un, .un, .un, .un, .un]) _ (EL.toE (el_cat (e_var 13) (EL.toE (el_slice (e_var 13) eo_none (eo_some e_int))) (by omega))) (Sub.refl _) rfl ?_ ?_ sc_law.nd rfl)
  · rintro m it _ hx rfl
    have hit : AskOk T it := by
      rcases List.mem_append.mp (List.mem_of_getElem? hx) with z | z
      · exact hxs it z
      · exact hxs it (hcx it z)
    obtain ⟨side, k, due⟩ := it
    obtain ⟨hs, hk, hcn, hdu⟩ := hit
    dsimp only at hs hk hcn hdu
    have hg := hT side hs.1 hs.2
    have hg1000 := hg.mono (n' := 1000) (e' := 1000) (by omega) (by omega)
    subst hdu
    have hl1 : (landsM (ix T side) k).length ≤ 100000 := by
      have := land_len (kinds := ix T side) (tb := reachTab (ix T side)) ((reachTab (ix T side)).length + 1) k
      unfold landsM landK; unfold cntK at hcn; omega
    have hl2 : ∀ r ∈ landsM (ix T side) k, r.length ≤ 100000 := fun r hr2 => by
      have h1 := way_len _ _ r hr2
      have h2 := (web_of hg1000 (by omega)).len
      have h3 := hg.len
      omega
    refine b_cons (s_if (t_not (t_val (e_call C_law_same_rowsL (hr.mono (by decide)) (landsM (ix T side) k, landsM (ix T side) k) (ea_cons (e_call Clandings (hr.mono (by decide)) (ix T side, k) (ea_cons (e_ixL (e_var 9) (e_tuI side (e_var 18) e_int) (atI_ix (by omega) (by omega))) (ea_cons (e_tuI k (e_var 18) e_int) ea_nil)) (show (Good (ix T side) 1000 1000 ∧ 0 ≤ k ∧ k < (ix T side).length) ∧ cntK (ix T side) (reachTab (ix T side)) k < 8000 from ⟨⟨hg1000, hk⟩, hcn⟩)) (ea_cons (e_tuI (landsM (ix T side) k) (e_var 18) e_int) ea_nil)) ⟨rfl, hl1, hl2⟩))) (fun h => by cases h) (fun _ => b_nil ?_))
    exact B.weak (b_nil rfl) (.same (.same (.same (.same (.same (.same (.same (.same (.same (.same (.same (.same (.same (.same (.same (.same (.same (.same (.un .nil)))))))))))))))))))
  rintro _ rfl
  refine b_cons (s_forR 14 (fun m G' => G' = [.vl (tSq tI) script, .vl (tLst tI) row, .vl (tTup (tTup tI)) maze, .vl (tLst tI) order, .un, .vl (tTup (tTup tI)) kinds, .vl (tLst (tTup (tTup tI))) T, .vl (tLst (tLst tI)) kinds, .un, .vl (tLst (tBook C)) T, .vl (tLst (tLst tI)) picks, .un, .vl (tLst (tLst tI)) L, .vl (tLst (tTu askFs)) xs, .un, .un, .un, .un, .un]) _ b.range e_int (by decide) (Sub.refl _) rfl ?_ ?_ sc_law.nd rfl)
  · rintro m _ hm rfl
    have hg := hT (m : Int) (by omega) (by omega)
    have hf := hfit _ hg
    have hlv := hlk (m : Int) (by omega) (by omega)
    have eL := hL (m : Int) (by omega) (by omega)
    refine b_cons (s_if (TW.toT (w_or (t_not (t_val (e_call C_law_same_rowsT (hr.mono (by decide)) (ix T (m : Int), ix T (m : Int)) (ea_cons (e_kinds (e_ixL (e_var 9) (e_var 14) (atI_ix (by omega) (by omega))) hC hna) (ea_cons (e_ixL (e_var 6) (e_var 14) (atI_ix (by omega) (by omega))) ea_nil)) (show ix T (m : Int) = ix T (m : Int) ∧ (ix T (m : Int)).length ≤ 100000 ∧ ∀ r ∈ ix T (m : Int), r.length ≤ 100000 from ⟨rfl, by omega, fun r hr => by have := hf.2 r hr; omega⟩)))) (fun _ => w_or1 (t_not (t_val (e_call C_law_same_rowL (hr.mono (by decide)) (liveK (ix T (m : Int)), liveK (ix T (m : Int))) (ea_cons (e_call Clive_kinds (hr.mono (by decide)) (ix T (m : Int)) (ea_cons (e_ixL (e_var 9) (e_var 14) (atI_ix (by omega) (by omega))) ea_nil) (hg.mono (by omega) (by omega))) (ea_cons (TL.E.is (e_ixL (e_var 12) (e_var 14) (atI_ix (by omega) (by omega))) eL) ea_nil)) ⟨rfl, by dsimp only; omega⟩)))))) (fun h => by cases h) (fun _ => b_nil ?_))
    exact B.weak (b_nil rfl) (.same (.same (.same (.same (.same (.same (.same (.same (.same (.same (.same (.same (.same (.same (.un (.same (.same (.same (.same .nil)))))))))))))))))))
  rintro _ rfl
  refine b_cons (s_ret (e_and (e_cv (e_var 7) (TL.E.is (EL.toE (el_lc (lc_T (f := fun x : List Int => x) (xs := kinds) (own := [("kind", 8)]) (e_var 5) 8 (fun s0 H C cl fp m x hx => EL.toE (el_listT b.list (e_var 8))) (blkOk_by (N := N8) (sc := defScope slaw) (by decide +kernel)) (by omega) (fun _ _ _ _ _ => pg_name sc_law.nd rfl (by first | exact Or.inl rfl | exact Or.inr rfl))) rfl sc_law.nd)) (List.map_id' kinds)) (cv_eqD hr (sh_tabL kinds) (sh_tabL kinds) (fun _ _ r => dp_tabL r) (fun _ _ r => dp_tabL r))) (fun _ => e_one (e_call C_law_same_rowsT (hr.mono (by decide)) (kinds, kinds) (ea_cons (e_tupL b.tuple (TL.E.is (EL.toE (el_lc (lc_L (f := fun x : List Int => x) (xs := kinds) (own := [("kind", 8)]) (e_var 7) 8 (fun s0 H C cl fp m x hx => e_tupL b.tuple (e_var 8)) (blkOk_by (N := N8) (sc := defScope slaw) (by decide +kernel)) (by omega) (fun _ _ _ _ _ => pg_name sc_law.nd rfl (by first | exact Or.inl rfl | exact Or.inr rfl))) rfl sc_law.nd)) (List.map_id' kinds))) (ea_cons (e_var 5) ea_nil)) (show kinds = kinds ∧ kinds.length ≤ 100000 ∧ ∀ r ∈ kinds, r.length ≤ 100000 from ⟨rfl, by omega, fun r hr => by have := fa.2 r hr; omega⟩)))) (fun M v r => ret_is r ?_))
  rw [eqv_tabL, decide_eq_true rfl]; rfl
end

theorem all_mk {l : PySem.W.OpenLaw} {w : World} {K : PySem.W.Frag} {h : Heap} {mg : Str → Option Value} {fa ADBook f0 f1 f2 f3 f4 f5 f6 f7 f8 f9 f10 f11 f12 f13 f14 f15 f16 f17 f18 f19 f20 f21 f22 f23 f24 f25 f26 f27 f28 f29 f30 f31 f32 f33 f34 f35 f36 f37 f38 f39 f40  : Addr} (X : K.In h) (G : h.Ns mainGlobals mg) (hfa : mg "law" = some (.ref fa))
    {od0 an0 od1 an1 od2 an2 od3 an3 od4 an4 od5 an5 od6 an6 od7 an7 od8 an8 od9 an9 od10 an10 od11 an11 od12 an12 od13 an13 od14 an14 od15 an15 od16 an16 od17 an17 od18 an18 od19 an19 od20 an20 od21 an21 od22 an22 od23 an23 od24 an24 od25 an25 od26 an26 od27 an27 od28 an28 od29 an29 od30 an30 od31 an31 od32 an32 od33 an33 od34 an34 od35 an35 od36 an36 od37 an37 od38 an38 od39 an39 od40 an40 : Option Addr} {sl0 sl1 sl2 sl3 sl4 sl5 sl6 sl7 sl8 sl9 sl10 sl11 sl12 sl13 sl14 sl15 sl16 sl17 sl18 sl19 sl20 sl21 sl22 sl23 sl24 sl25 sl26 sl27 sl28 sl29 sl30 sl31 sl32 sl33 sl34 sl35 sl36 sl37 sl38 sl39 sl40 : Array (Option Value)} {oc0 dc0 pm0 cd0 ct0 kV0 oc1 dc1 pm1 cd1 ct1 kV1 oc2 dc2 pm2 cd2 ct2 kV2 oc3 dc3 pm3 cd3 ct3 kV3 oc4 dc4 pm4 cd4 ct4 kV4 oc5 dc5 pm5 cd5 ct5 kV5 oc6 dc6 pm6 cd6 ct6 kV6 oc7 dc7 pm7 cd7 ct7 kV7 oc8 dc8 pm8 cd8 ct8 kV8 oc9 dc9 pm9 cd9 ct9 kV9 oc10 dc10 pm10 cd10 ct10 kV10 oc11 dc11 pm11 cd11 ct11 kV11 oc12 dc12 pm12 cd12 ct12 kV12 oc13 dc13 pm13 cd13 ct13 kV13 oc14 dc14 pm14 cd14 ct14 kV14 oc15 dc15 pm15 cd15 ct15 kV15 oc16 dc16 pm16 cd16 ct16 kV16 oc17 dc17 pm17 cd17 ct17 kV17 oc18 dc18 pm18 cd18 ct18 kV18 oc19 dc19 pm19 cd19 ct19 kV19 oc20 dc20 pm20 cd20 ct20 kV20 oc21 dc21 pm21 cd21 ct21 kV21 oc22 dc22 pm22 cd22 ct22 kV22 oc23 dc23 pm23 cd23 ct23 kV23 oc24 dc24 pm24 cd24 ct24 kV24 oc25 dc25 pm25 cd25 ct25 kV25 oc26 dc26 pm26 cd26 ct26 kV26 oc27 dc27 pm27 cd27 ct27 kV27 oc28 dc28 pm28 cd28 ct28 kV28 oc29 dc29 pm29 cd29 ct29 kV29 oc30 dc30 pm30 cd30 ct30 kV30 oc31 dc31 pm31 cd31 ct31 kV31 oc32 dc32 pm32 cd32 ct32 kV32 oc33 dc33 pm33 cd33 ct33 kV33 oc34 dc34 pm34 cd34 ct34 kV34 oc35 dc35 pm35 cd35 ct35 kV35 oc36 dc36 pm36 cd36 ct36 kV36 oc37 dc37 pm37 cd37 ct37 kV37 oc38 dc38 pm38 cd38 ct38 kV38 oc39 dc39 pm39 cd39 ct39 kV39 oc40 dc40 pm40 cd40 ct40 kV40 : Value}
    (aDBook : PySem.W.nsIn K mainGlobals "Book" = some (some (.ref ADBook)))
    (a0 : PySem.W.nsIn K mainGlobals "reach_flags" = some (some (.ref f0)))
    (l0 : K.lookup f0 = some ⟨oc0, od0, .func (PySem.W.fnOf "reach_flags" "reach_flags" (defArgs sreach_flags) (defBody sreach_flags) (defScope sreach_flags) .none kV0 dc0 pm0 an0 cd0 ct0), sl0⟩)
    (c0 : PySem.W.codeIn K cd0 "reach_flags" = true)
    (k0 : PySem.W.keepIn K (.ref f0) = true)
    (a1 : PySem.W.nsIn K mainGlobals "knot_around" = some (some (.ref f1)))
    (l1 : K.lookup f1 = some ⟨oc1, od1, .func (PySem.W.fnOf "knot_around" "knot_around" (defArgs sknot_around) (defBody sknot_around) (defScope sknot_around) .none kV1 dc1 pm1 an1 cd1 ct1), sl1⟩)
    (c1 : PySem.W.codeIn K cd1 "knot_around" = true)
    (k1 : PySem.W.keepIn K (.ref f1) = true)
    (a2 : PySem.W.nsIn K mainGlobals "is_blocked" = some (some (.ref f2)))
    (l2 : K.lookup f2 = some ⟨oc2, od2, .func (PySem.W.fnOf "is_blocked" "is_blocked" (defArgs sis_blocked) (defBody sis_blocked) (defScope sis_blocked) .none kV2 dc2 pm2 an2 cd2 ct2), sl2⟩)
    (c2 : PySem.W.codeIn K cd2 "is_blocked" = true)
    (k2 : PySem.W.keepIn K (.ref f2) = true)
    (a3 : PySem.W.nsIn K mainGlobals "next_head" = some (some (.ref f3)))
    (l3 : K.lookup f3 = some ⟨oc3, od3, .func (PySem.W.fnOf "next_head" "next_head" (defArgs snext_head) (defBody snext_head) (defScope snext_head) .none kV3 dc3 pm3 an3 cd3 ct3), sl3⟩)
    (c3 : PySem.W.codeIn K cd3 "next_head" = true)
    (k3 : PySem.W.keepIn K (.ref f3) = true)
    (a4 : PySem.W.nsIn K mainGlobals "knot_list" = some (some (.ref f4)))
    (l4 : K.lookup f4 = some ⟨oc4, od4, .func (PySem.W.fnOf "knot_list" "knot_list" (defArgs sknot_list) (defBody sknot_list) (defScope sknot_list) .none kV4 dc4 pm4 an4 cd4 ct4), sl4⟩)
    (c4 : PySem.W.codeIn K cd4 "knot_list" = true)
    (k4 : PySem.W.keepIn K (.ref f4) = true)
    (a5 : PySem.W.nsIn K mainGlobals "knot_numbers" = some (some (.ref f5)))
    (l5 : K.lookup f5 = some ⟨oc5, od5, .func (PySem.W.fnOf "knot_numbers" "knot_numbers" (defArgs sknot_numbers) (defBody sknot_numbers) (defScope sknot_numbers) .none kV5 dc5 pm5 an5 cd5 ct5), sl5⟩)
    (c5 : PySem.W.codeIn K cd5 "knot_numbers" = true)
    (k5 : PySem.W.keepIn K (.ref f5) = true)
    (a6 : PySem.W.nsIn K mainGlobals "reached_from" = some (some (.ref f6)))
    (l6 : K.lookup f6 = some ⟨oc6, od6, .func (PySem.W.fnOf "reached_from" "reached_from" (defArgs sreached_from) (defBody sreached_from) (defScope sreached_from) .none kV6 dc6 pm6 an6 cd6 ct6), sl6⟩)
    (c6 : PySem.W.codeIn K cd6 "reached_from" = true)
    (k6 : PySem.W.keepIn K (.ref f6) = true)
    (a7 : PySem.W.nsIn K mainGlobals "marks_beyond" = some (some (.ref f7)))
    (l7 : K.lookup f7 = some ⟨oc7, od7, .func (PySem.W.fnOf "marks_beyond" "marks_beyond" (defArgs smarks_beyond) (defBody smarks_beyond) (defScope smarks_beyond) .none kV7 dc7 pm7 an7 cd7 ct7), sl7⟩)
    (c7 : PySem.W.codeIn K cd7 "marks_beyond" = true)
    (k7 : PySem.W.keepIn K (.ref f7) = true)
    (a8 : PySem.W.nsIn K mainGlobals "_law_marks" = some (some (.ref f8)))
    (l8 : K.lookup f8 = some ⟨oc8, od8, .func (PySem.W.fnOf "_law_marks" "_law_marks" (defArgs s_law_marks) (defBody s_law_marks) (defScope s_law_marks) .none kV8 dc8 pm8 an8 cd8 ct8), sl8⟩)
    (c8 : PySem.W.codeIn K cd8 "_law_marks" = true)
    (k8 : PySem.W.keepIn K (.ref f8) = true)
    (a9 : PySem.W.nsIn K mainGlobals "_law_live" = some (some (.ref f9)))
    (l9 : K.lookup f9 = some ⟨oc9, od9, .func (PySem.W.fnOf "_law_live" "_law_live" (defArgs s_law_live) (defBody s_law_live) (defScope s_law_live) .none kV9 dc9 pm9 an9 cd9 ct9), sl9⟩)
    (c9 : PySem.W.codeIn K cd9 "_law_live" = true)
    (k9 : PySem.W.keepIn K (.ref f9) = true)
    (a10 : PySem.W.nsIn K mainGlobals "one_step_on" = some (some (.ref f10)))
    (l10 : K.lookup f10 = some ⟨oc10, od10, .func (PySem.W.fnOf "one_step_on" "one_step_on" (defArgs sone_step_on) (defBody sone_step_on) (defScope sone_step_on) .none kV10 dc10 pm10 an10 cd10 ct10), sl10⟩)
    (c10 : PySem.W.codeIn K cd10 "one_step_on" = true)
    (k10 : PySem.W.keepIn K (.ref f10) = true)
    (a11 : PySem.W.nsIn K mainGlobals "reach_table" = some (some (.ref f11)))
    (l11 : K.lookup f11 = some ⟨oc11, od11, .func (PySem.W.fnOf "reach_table" "reach_table" (defArgs sreach_table) (defBody sreach_table) (defScope sreach_table) .none kV11 dc11 pm11 an11 cd11 ct11), sl11⟩)
    (c11 : PySem.W.codeIn K cd11 "reach_table" = true)
    (k11 : PySem.W.keepIn K (.ref f11) = true)
    (a12 : PySem.W.nsIn K mainGlobals "endless_flags" = some (some (.ref f12)))
    (l12 : K.lookup f12 = some ⟨oc12, od12, .func (PySem.W.fnOf "endless_flags" "endless_flags" (defArgs sendless_flags) (defBody sendless_flags) (defScope sendless_flags) .none kV12 dc12 pm12 an12 cd12 ct12), sl12⟩)
    (c12 : PySem.W.codeIn K cd12 "endless_flags" = true)
    (k12 : PySem.W.keepIn K (.ref f12) = true)
    (a13 : PySem.W.nsIn K mainGlobals "live_flags" = some (some (.ref f13)))
    (l13 : K.lookup f13 = some ⟨oc13, od13, .func (PySem.W.fnOf "live_flags" "live_flags" (defArgs slive_flags) (defBody slive_flags) (defScope slive_flags) .none kV13 dc13 pm13 an13 cd13 ct13), sl13⟩)
    (c13 : PySem.W.codeIn K cd13 "live_flags" = true)
    (k13 : PySem.W.keepIn K (.ref f13) = true)
    (a14 : PySem.W.nsIn K mainGlobals "landings" = some (some (.ref f14)))
    (l14 : K.lookup f14 = some ⟨oc14, od14, .func (PySem.W.fnOf "landings" "landings" (defArgs slandings) (defBody slandings) (defScope slandings) .none kV14 dc14 pm14 an14 cd14 ct14), sl14⟩)
    (c14 : PySem.W.codeIn K cd14 "landings" = true)
    (k14 : PySem.W.keepIn K (.ref f14) = true)
    (a15 : PySem.W.nsIn K mainGlobals "_law_landings" = some (some (.ref f15)))
    (l15 : K.lookup f15 = some ⟨oc15, od15, .func (PySem.W.fnOf "_law_landings" "_law_landings" (defArgs s_law_landings) (defBody s_law_landings) (defScope s_law_landings) .none kV15 dc15 pm15 an15 cd15 ct15), sl15⟩)
    (c15 : PySem.W.codeIn K cd15 "_law_landings" = true)
    (k15 : PySem.W.keepIn K (.ref f15) = true)
    (a16 : PySem.W.nsIn K mainGlobals "_law_from_below" = some (some (.ref f16)))
    (l16 : K.lookup f16 = some ⟨oc16, od16, .func (PySem.W.fnOf "_law_from_below" "_law_from_below" (defArgs s_law_from_below) (defBody s_law_from_below) (defScope s_law_from_below) .none kV16 dc16 pm16 an16 cd16 ct16), sl16⟩)
    (c16 : PySem.W.codeIn K cd16 "_law_from_below" = true)
    (k16 : PySem.W.keepIn K (.ref f16) = true)
    (a17 : PySem.W.nsIn K mainGlobals "_law_way_items" = some (some (.ref f17)))
    (l17 : K.lookup f17 = some ⟨oc17, od17, .func (PySem.W.fnOf "_law_way_items" "_law_way_items" (defArgs s_law_way_items) (defBody s_law_way_items) (defScope s_law_way_items) .none kV17 dc17 pm17 an17 cd17 ct17), sl17⟩)
    (c17 : PySem.W.codeIn K cd17 "_law_way_items" = true)
    (k17 : PySem.W.keepIn K (.ref f17) = true)
    (a18 : PySem.W.nsIn K mainGlobals "_law_digits" = some (some (.ref f18)))
    (l18 : K.lookup f18 = some ⟨oc18, od18, .func (PySem.W.fnOf "_law_digits" "_law_digits" (defArgs s_law_digits) (defBody s_law_digits) (defScope s_law_digits) .none kV18 dc18 pm18 an18 cd18 ct18), sl18⟩)
    (c18 : PySem.W.codeIn K cd18 "_law_digits" = true)
    (k18 : PySem.W.keepIn K (.ref f18) = true)
    (a19 : PySem.W.nsIn K mainGlobals "_law_maze_sizes" = some (some (.ref f19)))
    (l19 : K.lookup f19 = some ⟨oc19, od19, .func (PySem.W.fnOf "_law_maze_sizes" "_law_maze_sizes" (defArgs s_law_maze_sizes) (defBody s_law_maze_sizes) (defScope s_law_maze_sizes) .none kV19 dc19 pm19 an19 cd19 ct19), sl19⟩)
    (c19 : PySem.W.codeIn K cd19 "_law_maze_sizes" = true)
    (k19 : PySem.W.keepIn K (.ref f19) = true)
    (a20 : PySem.W.nsIn K mainGlobals "_law_branch" = some (some (.ref f20)))
    (l20 : K.lookup f20 = some ⟨oc20, od20, .func (PySem.W.fnOf "_law_branch" "_law_branch" (defArgs s_law_branch) (defBody s_law_branch) (defScope s_law_branch) .none kV20 dc20 pm20 an20 cd20 ct20), sl20⟩)
    (c20 : PySem.W.codeIn K cd20 "_law_branch" = true)
    (k20 : PySem.W.keepIn K (.ref f20) = true)
    (a21 : PySem.W.nsIn K mainGlobals "_law_maze" = some (some (.ref f21)))
    (l21 : K.lookup f21 = some ⟨oc21, od21, .func (PySem.W.fnOf "_law_maze" "_law_maze" (defArgs s_law_maze) (defBody s_law_maze) (defScope s_law_maze) .none kV21 dc21 pm21 an21 cd21 ct21), sl21⟩)
    (c21 : PySem.W.codeIn K cd21 "_law_maze" = true)
    (k21 : PySem.W.keepIn K (.ref f21) = true)
    (a22 : PySem.W.nsIn K mainGlobals "live_kinds" = some (some (.ref f22)))
    (l22 : K.lookup f22 = some ⟨oc22, od22, .func (PySem.W.fnOf "live_kinds" "live_kinds" (defArgs slive_kinds) (defBody slive_kinds) (defScope slive_kinds) .none kV22 dc22 pm22 an22 cd22 ct22), sl22⟩)
    (c22 : PySem.W.codeIn K cd22 "live_kinds" = true)
    (k22 : PySem.W.keepIn K (.ref f22) = true)
    (a23 : PySem.W.nsIn K mainGlobals "_law_broad" = some (some (.ref f23)))
    (l23 : K.lookup f23 = some ⟨oc23, od23, .func (PySem.W.fnOf "_law_broad" "_law_broad" (defArgs s_law_broad) (defBody s_law_broad) (defScope s_law_broad) .none kV23 dc23 pm23 an23 cd23 ct23), sl23⟩)
    (c23 : PySem.W.codeIn K cd23 "_law_broad" = true)
    (k23 : PySem.W.keepIn K (.ref f23) = true)
    (a24 : PySem.W.nsIn K mainGlobals "_law_named" = some (some (.ref f24)))
    (l24 : K.lookup f24 = some ⟨oc24, od24, .func (PySem.W.fnOf "_law_named" "_law_named" (defArgs s_law_named) (defBody s_law_named) (defScope s_law_named) .none kV24 dc24 pm24 an24 cd24 ct24), sl24⟩)
    (c24 : PySem.W.codeIn K cd24 "_law_named" = true)
    (k24 : PySem.W.keepIn K (.ref f24) = true)
    (a25 : PySem.W.nsIn K mainGlobals "_law_renumbered" = some (some (.ref f25)))
    (l25 : K.lookup f25 = some ⟨oc25, od25, .func (PySem.W.fnOf "_law_renumbered" "_law_renumbered" (defArgs s_law_renumbered) (defBody s_law_renumbered) (defScope s_law_renumbered) .none kV25 dc25 pm25 an25 cd25 ct25), sl25⟩)
    (c25 : PySem.W.codeIn K cd25 "_law_renumbered" = true)
    (k25 : PySem.W.keepIn K (.ref f25) = true)
    (a26 : PySem.W.nsIn K mainGlobals "_law_order" = some (some (.ref f26)))
    (l26 : K.lookup f26 = some ⟨oc26, od26, .func (PySem.W.fnOf "_law_order" "_law_order" (defArgs s_law_order) (defBody s_law_order) (defScope s_law_order) .none kV26 dc26 pm26 an26 cd26 ct26), sl26⟩)
    (c26 : PySem.W.codeIn K cd26 "_law_order" = true)
    (k26 : PySem.W.keepIn K (.ref f26) = true)
    (a27 : PySem.W.nsIn K mainGlobals "_law_picked" = some (some (.ref f27)))
    (l27 : K.lookup f27 = some ⟨oc27, od27, .func (PySem.W.fnOf "_law_picked" "_law_picked" (defArgs s_law_picked) (defBody s_law_picked) (defScope s_law_picked) .none kV27 dc27 pm27 an27 cd27 ct27), sl27⟩)
    (c27 : PySem.W.codeIn K cd27 "_law_picked" = true)
    (k27 : PySem.W.keepIn K (.ref f27) = true)
    (a28 : PySem.W.nsIn K mainGlobals "frozen" = some (some (.ref f28)))
    (l28 : K.lookup f28 = some ⟨oc28, od28, .func (PySem.W.fnOf "frozen" "frozen" (defArgs sfrozen) (defBody sfrozen) (defScope sfrozen) .none kV28 dc28 pm28 an28 cd28 ct28), sl28⟩)
    (c28 : PySem.W.codeIn K cd28 "frozen" = true)
    (k28 : PySem.W.keepIn K (.ref f28) = true)
    (a29 : PySem.W.nsIn K mainGlobals "is_whole" = some (some (.ref f29)))
    (l29 : K.lookup f29 = some ⟨oc29, od29, .func (PySem.W.fnOf "is_whole" "is_whole" (defArgs sis_whole) (defBody sis_whole) (defScope sis_whole) .none kV29 dc29 pm29 an29 cd29 ct29), sl29⟩)
    (c29 : PySem.W.codeIn K cd29 "is_whole" = true)
    (k29 : PySem.W.keepIn K (.ref f29) = true)
    (a30 : PySem.W.nsIn K mainGlobals "is_target" = some (some (.ref f30)))
    (l30 : K.lookup f30 = some ⟨oc30, od30, .func (PySem.W.fnOf "is_target" "is_target" (defArgs sis_target) (defBody sis_target) (defScope sis_target) .none kV30 dc30 pm30 an30 cd30 ct30), sl30⟩)
    (c30 : PySem.W.codeIn K cd30 "is_target" = true)
    (k30 : PySem.W.keepIn K (.ref f30) = true)
    (a31 : PySem.W.findIn K (.ref ADBook) "__init__" = some (some (.ref f31)))
    (i31 : PySem.W.isFn K (.ref f31) = true)
    (l31 : K.lookup f31 = some ⟨oc31, od31, .func (PySem.W.fnOf "__init__" "Book.__init__" (defArgs sBook__init__) (defBody sBook__init__) (defScope sBook__init__) .none kV31 dc31 pm31 an31 cd31 ct31), sl31⟩)
    (c31 : PySem.W.codeIn K cd31 "Book.__init__" = true)
    (k31 : PySem.W.keepIn K (.ref f31) = true)
    (a32 : PySem.W.nsIn K mainGlobals "moved_kinds" = some (some (.ref f32)))
    (l32 : K.lookup f32 = some ⟨oc32, od32, .func (PySem.W.fnOf "moved_kinds" "moved_kinds" (defArgs smoved_kinds) (defBody smoved_kinds) (defScope smoved_kinds) .none kV32 dc32 pm32 an32 cd32 ct32), sl32⟩)
    (c32 : PySem.W.codeIn K cd32 "moved_kinds" = true)
    (k32 : PySem.W.keepIn K (.ref f32) = true)
    (a33 : PySem.W.findIn K (.ref ADBook) "__add__" = some (some (.ref f33)))
    (i33 : PySem.W.isFn K (.ref f33) = true)
    (l33 : K.lookup f33 = some ⟨oc33, od33, .func (PySem.W.fnOf "__add__" "Book.__add__" (defArgs sBook__add__) (defBody sBook__add__) (defScope sBook__add__) .none kV33 dc33 pm33 an33 cd33 ct33), sl33⟩)
    (c33 : PySem.W.codeIn K cd33 "Book.__add__" = true)
    (k33 : PySem.W.keepIn K (.ref f33) = true)
    (a34 : PySem.W.nsIn K mainGlobals "_law_sum" = some (some (.ref f34)))
    (l34 : K.lookup f34 = some ⟨oc34, od34, .func (PySem.W.fnOf "_law_sum" "_law_sum" (defArgs s_law_sum) (defBody s_law_sum) (defScope s_law_sum) .none kV34 dc34 pm34 an34 cd34 ct34), sl34⟩)
    (c34 : PySem.W.codeIn K cd34 "_law_sum" = true)
    (k34 : PySem.W.keepIn K (.ref f34) = true)
    (a35 : PySem.W.nsIn K mainGlobals "_law_reach" = some (some (.ref f35)))
    (l35 : K.lookup f35 = some ⟨oc35, od35, .func (PySem.W.fnOf "_law_reach" "_law_reach" (defArgs s_law_reach) (defBody s_law_reach) (defScope s_law_reach) .none kV35 dc35 pm35 an35 cd35 ct35), sl35⟩)
    (c35 : PySem.W.codeIn K cd35 "_law_reach" = true)
    (k35 : PySem.W.keepIn K (.ref f35) = true)
    (a36 : PySem.W.nsIn K mainGlobals "_law_whole" = some (some (.ref f36)))
    (l36 : K.lookup f36 = some ⟨oc36, od36, .func (PySem.W.fnOf "_law_whole" "_law_whole" (defArgs s_law_whole) (defBody s_law_whole) (defScope s_law_whole) .none kV36 dc36 pm36 an36 cd36 ct36), sl36⟩)
    (c36 : PySem.W.codeIn K cd36 "_law_whole" = true)
    (k36 : PySem.W.keepIn K (.ref f36) = true)
    (a37 : PySem.W.nsIn K mainGlobals "_law_same_row" = some (some (.ref f37)))
    (l37 : K.lookup f37 = some ⟨oc37, od37, .func (PySem.W.fnOf "_law_same_row" "_law_same_row" (defArgs s_law_same_row) (defBody s_law_same_row) (defScope s_law_same_row) .none kV37 dc37 pm37 an37 cd37 ct37), sl37⟩)
    (c37 : PySem.W.codeIn K cd37 "_law_same_row" = true)
    (k37 : PySem.W.keepIn K (.ref f37) = true)
    (a38 : PySem.W.nsIn K mainGlobals "_law_same_rows" = some (some (.ref f38)))
    (l38 : K.lookup f38 = some ⟨oc38, od38, .func (PySem.W.fnOf "_law_same_rows" "_law_same_rows" (defArgs s_law_same_rows) (defBody s_law_same_rows) (defScope s_law_same_rows) .none kV38 dc38 pm38 an38 cd38 ct38), sl38⟩)
    (c38 : PySem.W.codeIn K cd38 "_law_same_rows" = true)
    (k38 : PySem.W.keepIn K (.ref f38) = true)
    (a39 : PySem.W.nsIn K mainGlobals "_law_cell" = some (some (.ref f39)))
    (l39 : K.lookup f39 = some ⟨oc39, od39, .func (PySem.W.fnOf "_law_cell" "_law_cell" (defArgs s_law_cell) (defBody s_law_cell) (defScope s_law_cell) .none kV39 dc39 pm39 an39 cd39 ct39), sl39⟩)
    (c39 : PySem.W.codeIn K cd39 "_law_cell" = true)
    (k39 : PySem.W.keepIn K (.ref f39) = true)
    (a40 : PySem.W.nsIn K mainGlobals "law" = some (some (.ref f40)))
    (l40 : K.lookup f40 = some ⟨oc40, od40, .func (PySem.W.fnOf "law" "law" (defArgs slaw) (defBody slaw) (defScope slaw) .none kV40 dc40 pm40 an40 cd40 ct40), sl40⟩)
    (c40 : PySem.W.codeIn K cd40 "law" = true)
    (k40 : PySem.W.keepIn K (.ref f40) = true)
    (pgBook : PySem.W.plainGet K ADBook Str.empty = true)
    (hdBook : PySem.W.hasDictIn K ADBook = true)
    (poBook : PySem.W.plainOver K ADBook = true)
    (saBook : PySem.W.findIn K (.ref ADBook) "__setattr__" = some (some (.builtin "object.__setattr__")))
    (mkBook : PySem.W.makesIn K ADBook = true)
    (kcBook : PySem.W.keepIn K (.ref ADBook) = true)
    (sfBook : PySem.W.selfFirst K ADBook = true)
    (naBook_kinds : PySem.W.findIn K (.ref ADBook) "kinds" = some none)
    (z_len : PySem.W.nsIn K mainGlobals "len" = some none)
    (z_int : PySem.W.nsIn K mainGlobals "int" = some none)
    (z_min : PySem.W.nsIn K mainGlobals "min" = some none)
    (z_max : PySem.W.nsIn K mainGlobals "max" = some none)
    (z_range : PySem.W.nsIn K mainGlobals "range" = some none)
    (z_list : PySem.W.nsIn K mainGlobals "list" = some none)
    (z_tuple : PySem.W.nsIn K mainGlobals "tuple" = some none)
    (z_isinstance : PySem.W.nsIn K mainGlobals "isinstance" = some none)
    (z_str : PySem.W.nsIn K mainGlobals "str" = some none)
    (z_bool : PySem.W.nsIn K mainGlobals "bool" = some none)
    (z_sum : PySem.W.nsIn K mainGlobals "sum" = some none)
    (z_sorted : PySem.W.nsIn K mainGlobals "sorted" = some none)
    (z_repr : PySem.W.nsIn K mainGlobals "repr" = some none)
    (z_iter : PySem.W.nsIn K mainGlobals "iter" = some none)
    (z_enumerate : PySem.W.nsIn K mainGlobals "enumerate" = some none)
    (z_zip : PySem.W.nsIn K mainGlobals "zip" = some none)
    (z_reversed : PySem.W.nsIn K mainGlobals "reversed" = some none)
    (z_any : PySem.W.nsIn K mainGlobals "any" = some none)
    (z_all : PySem.W.nsIn K mainGlobals "all" = some none)
    (z_abs : PySem.W.nsIn K mainGlobals "abs" = some none)
    (z_set : PySem.W.nsIn K mainGlobals "set" = some none)
    (z_dict : PySem.W.nsIn K mainGlobals "dict" = some none)
    (z_ValueError : PySem.W.nsIn K mainGlobals "ValueError" = some none) :
    ∃ fd : FuncData, (∀ (s : Shared) (v : Value), BindsTo s fd ⟨[v], []⟩ [("script", v)]) ∧ ∀ base : Heap, K.In base → base.Ns mainGlobals mg → FnOk l.prog w K mg base CX0 8 fa fd ["script"] (splaw K) := by
  have e := hfa.symm.trans (PySem.W.mg_of X G a40)
  cases e
  have b : Bi mg := ⟨PySem.W.mg_none_of X G z_len, PySem.W.mg_none_of X G z_int, PySem.W.mg_none_of X G z_min, PySem.W.mg_none_of X G z_max, PySem.W.mg_none_of X G z_range, PySem.W.mg_none_of X G z_list, PySem.W.mg_none_of X G z_tuple, PySem.W.mg_none_of X G z_isinstance, PySem.W.mg_none_of X G z_str, PySem.W.mg_none_of X G z_bool, PySem.W.mg_none_of X G z_sum, PySem.W.mg_none_of X G z_sorted, PySem.W.mg_none_of X G z_repr, PySem.W.mg_none_of X G z_iter, PySem.W.mg_none_of X G z_enumerate, PySem.W.mg_none_of X G z_zip, PySem.W.mg_none_of X G z_reversed, PySem.W.mg_none_of X G z_any, PySem.W.mg_none_of X G z_all, PySem.W.mg_none_of X G z_abs, PySem.W.mg_none_of X G z_set, PySem.W.mg_none_of X G z_dict, PySem.W.mg_none_of X G z_ValueError⟩
  have clsBook : Cls K ADBook := ⟨pgBook, hdBook, poBook, saBook⟩
  have F0 := fun_mk (st := sreach_flags) l0 c0 k0
  have b0 := F0.binds (ps := ["kinds", "kind"]) fun _ _ _ _ _ _ us hl => match us, hl with | [_, _], _ => rfl
  have F1 := fun_mk (st := sknot_around) l1 c1 k1
  have b1 := F1.binds (ps := ["table", "kind"]) fun _ _ _ _ _ _ us hl => match us, hl with | [_, _], _ => rfl
  have F2 := fun_mk (st := sis_blocked) l2 c2 k2
  have b2 := F2.binds (ps := ["table", "waiting", "head"]) fun _ _ _ _ _ _ us hl => match us, hl with | [_, _, _], _ => rfl
  have F3 := fun_mk (st := snext_head) l3 c3 k3
  have b3 := F3.binds (ps := ["table", "waiting"]) fun _ _ _ _ _ _ us hl => match us, hl with | [_, _], _ => rfl
  have F4 := fun_mk (st := sknot_list) l4 c4 k4
  have b4 := F4.binds (ps := ["kinds"]) fun _ _ _ _ _ _ us hl => match us, hl with | [_], _ => rfl
  have F5 := fun_mk (st := sknot_numbers) l5 c5 k5
  have b5 := F5.binds (ps := ["kinds"]) fun _ _ _ _ _ _ us hl => match us, hl with | [_], _ => rfl
  have F6 := fun_mk (st := sreached_from) l6 c6 k6
  have b6 := F6.binds (ps := ["kinds", "kind"]) fun _ _ _ _ _ _ us hl => match us, hl with | [_, _], _ => rfl
  have F7 := fun_mk (st := smarks_beyond) l7 c7 k7
  have b7 := F7.binds (ps := ["kinds", "kind"]) fun _ _ _ _ _ _ us hl => match us, hl with | [_, _], _ => rfl
  have F8 := fun_mk (st := s_law_marks) l8 c8 k8
  have b8 := F8.binds (ps := ["kinds", "reach", "k"]) fun _ _ _ _ _ _ us hl => match us, hl with | [_, _, _], _ => rfl
  have F9 := fun_mk (st := s_law_live) l9 c9 k9
  have b9 := F9.binds (ps := ["kinds", "reach"]) fun _ _ _ _ _ _ us hl => match us, hl with | [_, _], _ => rfl
  have F10 := fun_mk (st := sone_step_on) l10 c10 k10
  have b10 := F10.binds (ps := ["kinds", "way", "kind"]) fun _ _ _ _ _ _ us hl => match us, hl with | [_, _, _], _ => rfl
  have F11 := fun_mk (st := sreach_table) l11 c11 k11
  have b11 := F11.binds (ps := ["kinds"]) fun _ _ _ _ _ _ us hl => match us, hl with | [_], _ => rfl
  have F12 := fun_mk (st := sendless_flags) l12 c12 k12
  have b12 := F12.binds (ps := ["kinds"]) fun _ _ _ _ _ _ us hl => match us, hl with | [_], _ => rfl
  have F13 := fun_mk (st := slive_flags) l13 c13 k13
  have b13 := F13.binds (ps := ["kinds"]) fun _ _ _ _ _ _ us hl => match us, hl with | [_], _ => rfl
  have F14 := fun_mk (st := slandings) l14 c14 k14
  have b14 := F14.binds (ps := ["book", "kind"]) fun _ _ _ _ _ _ us hl => match us, hl with | [_, _], _ => rfl
  have F15 := fun_mk (st := s_law_landings) l15 c15 k15
  have b15 := F15.binds (ps := ["kinds", "reach", "live", "k"]) fun _ _ _ _ _ _ us hl => match us, hl with | [_, _, _, _], _ => rfl
  have F16 := fun_mk (st := s_law_from_below) l16 c16 k16
  have b16 := F16.binds (ps := ["reach"]) fun _ _ _ _ _ _ us hl => match us, hl with | [_], _ => rfl
  have F17 := fun_mk (st := s_law_way_items) l17 c17 k17
  have b17 := F17.binds (ps := ["kinds", "reach"]) fun _ _ _ _ _ _ us hl => match us, hl with | [_, _], _ => rfl
  have F18 := fun_mk (st := s_law_digits) l18 c18 k18
  have b18 := F18.binds (ps := ["cell", "sizes"]) fun _ _ _ _ _ _ us hl => match us, hl with | [_, _], _ => rfl
  have F19 := fun_mk (st := s_law_maze_sizes) l19 c19 k19
  have b19 := F19.binds (ps := ["n", "e"]) fun _ _ _ _ _ _ us hl => match us, hl with | [_, _], _ => rfl
  have F20 := fun_mk (st := s_law_branch) l20 c20 k20
  have b20 := F20.binds (ps := ["digit", "k", "many"]) fun _ _ _ _ _ _ us hl => match us, hl with | [_, _, _], _ => rfl
  have F21 := fun_mk (st := s_law_maze) l21 c21 k21
  have b21 := F21.binds (ps := ["row", "n", "e"]) fun _ _ _ _ _ _ us hl => match us, hl with | [_, _, _], _ => rfl
  have F22 := fun_mk (st := slive_kinds) l22 c22 k22
  have b22 := F22.binds (ps := ["book"]) fun _ _ _ _ _ _ us hl => match us, hl with | [_], _ => rfl
  have F23 := fun_mk (st := s_law_broad) l23 c23 k23
  have b23 := F23.binds (ps := ["kinds", "row", "limit"]) fun _ _ _ _ _ _ us hl => match us, hl with | [_, _, _], _ => rfl
  have F24 := fun_mk (st := s_law_named) l24 c24 k24
  have b24 := F24.binds (ps := ["t", "place"]) fun _ _ _ _ _ _ us hl => match us, hl with | [_, _], _ => rfl
  have F25 := fun_mk (st := s_law_renumbered) l25 c25 k25
  have b25 := F25.binds (ps := ["kinds", "order"]) fun _ _ _ _ _ _ us hl => match us, hl with | [_, _], _ => rfl
  have F26 := fun_mk (st := s_law_order) l26 c26 k26
  have b26 := F26.binds (ps := ["row", "many"]) fun _ _ _ _ _ _ us hl => match us, hl with | [_, _], _ => rfl
  have F27 := fun_mk (st := s_law_picked) l27 c27 k27
  have b27 := F27.binds (ps := ["many", "row"]) fun _ _ _ _ _ _ us hl => match us, hl with | [_, _], _ => rfl
  have F28 := fun_mk (st := sfrozen) l28 c28 k28
  have b28 := F28.binds (ps := ["value"]) fun _ _ _ _ _ _ us hl => match us, hl with | [_], _ => rfl
  have F29 := fun_mk (st := sis_whole) l29 c29 k29
  have b29 := F29.binds (ps := ["value"]) fun _ _ _ _ _ _ us hl => match us, hl with | [_], _ => rfl
  have F30 := fun_mk (st := sis_target) l30 c30 k30
  have b30 := F30.binds (ps := ["value", "many"]) fun _ _ _ _ _ _ us hl => match us, hl with | [_, _], _ => rfl
  have F31 := fun_mk (st := sBook__init__) l31 c31 k31
  have b31 := F31.binds (ps := ["self", "kinds"]) fun _ _ _ _ _ _ us hl => match us, hl with | [_, _], _ => rfl
  have F32 := fun_mk (st := smoved_kinds) l32 c32 k32
  have b32 := F32.binds (ps := ["kinds", "amount"]) fun _ _ _ _ _ _ us hl => match us, hl with | [_, _], _ => rfl
  have F33 := fun_mk (st := sBook__add__) l33 c33 k33
  have b33 := F33.binds (ps := ["self", "other"]) fun _ _ _ _ _ _ us hl => match us, hl with | [_, _], _ => rfl
  have F34 := fun_mk (st := s_law_sum) l34 c34 k34
  have b34 := F34.binds (ps := ["left", "right"]) fun _ _ _ _ _ _ us hl => match us, hl with | [_, _], _ => rfl
  have F35 := fun_mk (st := s_law_reach) l35 c35 k35
  have b35 := F35.binds (ps := ["kinds"]) fun _ _ _ _ _ _ us hl => match us, hl with | [_], _ => rfl
  have F36 := fun_mk (st := s_law_whole) l36 c36 k36
  have b36 := F36.binds (ps := ["value"]) fun _ _ _ _ _ _ us hl => match us, hl with | [_], _ => rfl
  have F37 := fun_mk (st := s_law_same_row) l37 c37 k37
  have b37 := F37.binds (ps := ["told", "due"]) fun _ _ _ _ _ _ us hl => match us, hl with | [_, _], _ => rfl
  have F38 := fun_mk (st := s_law_same_rows) l38 c38 k38
  have b38 := F38.binds (ps := ["told", "due"]) fun _ _ _ _ _ _ us hl => match us, hl with | [_, _], _ => rfl
  have F39 := fun_mk (st := s_law_cell) l39 c39 k39
  have b39 := F39.binds (ps := ["script", "k"]) fun _ _ _ _ _ _ us hl => match us, hl with | [_, _], _ => rfl
  have F40 := fun_mk (st := slaw) l40 c40 k40
  refine ⟨PySem.W.fnOf "law" "law" (defArgs slaw) (defBody slaw) (defScope slaw) .none kV40 dc40 pm40 an40 cd40 ct40, fun s v => .of_eq rfl, fun base _ _ => ?_⟩
  have Creach_flags : Fn l.prog w K mg base CX0 1 "reach_flags" ["kinds", "kind"] (spreach_flags K) := fn_in X G a0 F0 b0 (okreach_flags F0 b)
  have Cknot_around : Fn l.prog w K mg base CX0 1 "knot_around" ["table", "kind"] (spknot_around K) := fn_in X G a1 F1 b1 (okknot_around F1 b)
  have Cis_blocked : Fn l.prog w K mg base CX0 1 "is_blocked" ["table", "waiting", "head"] (spis_blocked K) := fn_in X G a2 F2 b2 (okis_blocked F2 b)
  have Cnext_head : Fn l.prog w K mg base CX0 2 "next_head" ["table", "waiting"] (spnext_head K) := fn_in X G a3 F3 b3 (oknext_head F3 b Cis_blocked)
  have Cknot_list : Fn l.prog w K mg base CX0 3 "knot_list" ["kinds"] (spknot_list K) := fn_in X G a4 F4 b4 (okknot_list F4 b Creach_flags Cknot_around Cnext_head)
  have Cknot_numbers : Fn l.prog w K mg base CX0 4 "knot_numbers" ["kinds"] (spknot_numbers K) := fn_in X G a5 F5 b5 (okknot_numbers F5 b Cknot_list)
  have Creached_from : Fn l.prog w K mg base CX0 2 "reached_from" ["kinds", "kind"] (spreached_from K) := fn_in X G a6 F6 b6 (okreached_from F6 b Creach_flags)
  have Cmarks_beyond : Fn l.prog w K mg base CX0 2 "marks_beyond" ["kinds", "kind"] (spmarks_beyond K) := fn_in X G a7 F7 b7 (okmarks_beyond F7 b Creach_flags)
  have C_law_marks : Fn l.prog w K mg base CX0 1 "_law_marks" ["kinds", "reach", "k"] (sp_law_marks K) := fn_in X G a8 F8 b8 (ok_law_marks F8 b)
  have C_law_live : Fn l.prog w K mg base CX0 2 "_law_live" ["kinds", "reach"] (sp_law_live K) := fn_in X G a9 F9 b9 (ok_law_live F9 b C_law_marks)
  have Cone_step_on : Fn l.prog w K mg base CX0 1 "one_step_on" ["kinds", "way", "kind"] (spone_step_on K) := fn_in X G a10 F10 b10 (okone_step_on F10 b)
  have Creach_table : Fn l.prog w K mg base CX0 3 "reach_table" ["kinds"] (spreach_table K) := fn_in X G a11 F11 b11 (okreach_table F11 b Creached_from)
  have Cendless_flags : Fn l.prog w K mg base CX0 4 "endless_flags" ["kinds"] (spendless_flags K) := fn_in X G a12 F12 b12 (okendless_flags F12 b Creach_table)
  have Clive_flags : Fn l.prog w K mg base CX0 5 "live_flags" ["kinds"] (splive_flags K) := fn_in X G a13 F13 b13 (oklive_flags F13 b Cendless_flags Cmarks_beyond)
  have Clandings : Fn l.prog w K mg base CX0 6 "landings" ["book", "kind"] (splandings K ADBook) := fn_in X G a14 F14 b14 (oklandings clsBook naBook_kinds F14 b Cknot_numbers Clive_flags Cone_step_on (TL.Fn.imp Cone_step_on TL.spN_G))
  have C_law_landings : Fn l.prog w K mg base CX0 1 "_law_landings" ["kinds", "reach", "live", "k"] (sp_law_landings K) := fn_in X G a15 F15 b15 (ok_law_landings F15 b)
  have C_law_from_below : Fn l.prog w K mg base CX0 1 "_law_from_below" ["reach"] (sp_law_from_below K) := fn_in X G a16 F16 b16 (ok_law_from_below F16 b)
  have C_law_way_items : Fn l.prog w K mg base CX0 2 "_law_way_items" ["kinds", "reach"] (sp_law_way_items K) := fn_in X G a17 F17 b17 (ok_law_way_items F17 b C_law_from_below)
  have C_law_digits : Fn l.prog w K mg base CX0 1 "_law_digits" ["cell", "sizes"] (sp_law_digits K) := fn_in X G a18 F18 b18 (ok_law_digits F18 b)
  have C_law_maze_sizes : Fn l.prog w K mg base CX0 1 "_law_maze_sizes" ["n", "e"] (sp_law_maze_sizes K) := fn_in X G a19 F19 b19 (ok_law_maze_sizes F19 b)
  have C_law_branch : Fn l.prog w K mg base CX0 1 "_law_branch" ["digit", "k", "many"] (sp_law_branch K) := fn_in X G a20 F20 b20 (ok_law_branch F20 b)
  have C_law_maze : Fn l.prog w K mg base CX0 2 "_law_maze" ["row", "n", "e"] (sp_law_maze K) := fn_in X G a21 F21 b21 (ok_law_maze F21 b C_law_branch)
  have Clive_kinds : Fn l.prog w K mg base CX0 6 "live_kinds" ["book"] (splive_kinds K ADBook) := fn_in X G a22 F22 b22 (oklive_kinds clsBook naBook_kinds F22 b Clive_flags)
  have C_law_broad : Fn l.prog w K mg base CX0 1 "_law_broad" ["kinds", "row", "limit"] (sp_law_broad K) := fn_in X G a23 F23 b23 (ok_law_broad F23 b)
  have C_law_named : Fn l.prog w K mg base CX0 1 "_law_named" ["t", "place"] (sp_law_named K) := fn_in X G a24 F24 b24 (ok_law_named F24 b)
  have C_law_renumbered : Fn l.prog w K mg base CX0 2 "_law_renumbered" ["kinds", "order"] (sp_law_renumbered K) := fn_in X G a25 F25 b25 (ok_law_renumbered F25 b C_law_named)
  have C_law_order : Fn l.prog w K mg base CX0 1 "_law_order" ["row", "many"] (sp_law_order K) := fn_in X G a26 F26 b26 (ok_law_order F26 b)
  have C_law_picked : Fn l.prog w K mg base CX0 1 "_law_picked" ["many", "row"] (sp_law_picked K) := fn_in X G a27 F27 b27 (ok_law_picked F27 b)
  have Cfrozen : Fn l.prog w K mg base CX0 3 "frozen" ["value"] (spFz K 2) := fn_in X G a28 F28 b28 (Ea.ok_frozen F28 b (PySem.W.mg_of X G a28) b28 2)
  have Cis_whole : Fn l.prog w K mg base CX0 1 "is_whole" ["value"] (spWhole K) := fn_in X G a29 F29 b29 (okis_whole F29 b)
  have Cis_target : Fn l.prog w K mg base CX0 2 "is_target" ["value", "many"] (spis_target K) := fn_in X G a30 F30 b30 (okis_target F30 b Cis_whole)
  have CBook : Mkr l.prog w K mg base 4 "Book" ADBook ["self", "kinds"] (spBook__init__ K ADBook) := ⟨f31, _, ⟨mkBook, a31, i31, kcBook⟩, okBook__init__ clsBook naBook_kinds F31 b Cfrozen Cis_target, PySem.W.mg_of X G aDBook, b31⟩
  have Cmoved_kinds : Fn l.prog w K mg base CX0 1 "moved_kinds" ["kinds", "amount"] (spmoved_kinds K) := fn_in X G a32 F32 b32 (okmoved_kinds F32 b)
  have CAdd : AddC l.prog w K mg base 6 ADBook ["self", "other"] (spBook__add__ K ADBook) := ⟨f33, _, sfBook, a33, i33, b33, okBook__add__ clsBook naBook_kinds F33 b CBook Cmoved_kinds⟩
  have C_law_sum : Fn l.prog w K mg base CX0 1 "_law_sum" ["left", "right"] (sp_law_sum K) := fn_in X G a34 F34 b34 (ok_law_sum F34 b)
  have C_law_reach : Fn l.prog w K mg base CX0 1 "_law_reach" ["kinds"] (spRT K) := fn_in X G a35 F35 b35 (ok_law_reach F35 b)
  have C_law_whole : Fn l.prog w K mg base CX0 1 "_law_whole" ["value"] (spWhole K) := fn_in X G a36 F36 b36 (ok_law_whole F36 b)
  have C_law_same_rowT : Fn l.prog w K mg base CX0 2 "_law_same_row" ["told", "due"] (sp_law_same_rowT K) := fn_in X G a37 F37 b37 (ok_law_same_rowT F37 b C_law_whole)
  have C_law_same_rowL : Fn l.prog w K mg base CX0 2 "_law_same_row" ["told", "due"] (sp_law_same_rowL K) := fn_in X G a37 F37 b37 (ok_law_same_rowL F37 b C_law_whole)
  have C_law_same_rowsT : Fn l.prog w K mg base CX0 3 "_law_same_rows" ["told", "due"] (sp_law_same_rowsT K) := fn_in X G a38 F38 b38 (ok_law_same_rowsT F38 b C_law_same_rowT)
  have C_law_same_rowsL : Fn l.prog w K mg base CX0 3 "_law_same_rows" ["told", "due"] (sp_law_same_rowsL K) := fn_in X G a38 F38 b38 (ok_law_same_rowsL F38 b C_law_same_rowT)
  have C_law_cell : Fn l.prog w K mg base CX0 1 "_law_cell" ["script", "k"] (sp_law_cell K) := fn_in X G a39 F39 b39 (ok_law_cell F39 b)
  exact oklaw clsBook naBook_kinds F40 b C_law_digits C_law_cell C_law_maze_sizes C_law_maze C_law_broad C_law_order C_law_renumbered CBook CAdd C_law_sum C_law_reach C_law_live C_law_way_items C_law_landings Clive_kinds Clandings C_law_same_rowL C_law_same_rowsT C_law_same_rowsL C_law_picked
theorem walk {l : PySem.W.OpenLaw} {q : Program} {loose : List Str} {XP : (Str → Option Value) → Heap → Prop} {YP : World → Heap → Prop} {d : DefRec} {K : Params → PySem.W.Frag} (hn : l.most = some 63) (hdf : d.params.defaults = [])
    (hY : ∀ (w : World) (h : Heap), YP w h → (K w.params).In h)
    (F : ∀ (w : World) (mg : Str → Option Value) (fa : Addr) (h : Heap), (K w.params).In h → h.Ns mainGlobals mg → mg d.name = some (.ref fa) →
      ∃ fd : FuncData, (∀ (s : Shared) (u : Value), BindsTo s fd ⟨[u], []⟩ [("script", u)]) ∧ ∀ base : Heap, (K w.params).In base → base.Ns mainGlobals mg → FnOk l.prog w (K w.params) mg base CX0 8 fa fd ["script"] (splaw (K w.params))) :
    PySem.W.WalkO q loose XP YP l.row.toRowW d [] (fun f vs => PySem.call f vs) :=
  L2.walk_of (n := 63) (k := 8) (x := "script") (CX := fun _ => CX0) (sp := fun w => splaw (K w.params)) hn (by decide) hdf ⟨rfl, by decide, by decide⟩ hY F (fun w H a ns hl m hS => law_sp hl hS) fun _ _ _ _ _ z => z
end Ea

open PySem PySem.W PyProof.Rows in
set_option maxRecDepth 100000 in
set_option maxHeartbeats 0 in
theorem PySem.Challenge.cw_endsalike_k08_live_and_landings_holds : PySem.Challenge.rw_endsalike_k08_live_and_landings.Holds := by
  w_on; o_law; k_head; (case hw => w_witness2)
  k_fill
  refine Ea.walk (l := PySem.Challenge.rw_endsalike_k08_live_and_landings) rfl rfl (fun w h Y => PySem.W.kIn_of Y) ?F
  case F =>
    intro w mg fa h KX G hmg
    refine' Ea.all_mk KX G hmg ?aDBook ?a0 ?l0 ?c0 ?k0 ?a1 ?l1 ?c1 ?k1 ?a2 ?l2 ?c2 ?k2 ?a3 ?l3 ?c3 ?k3 ?a4 ?l4 ?c4 ?k4 ?a5 ?l5 ?c5 ?k5 ?a6 ?l6 ?c6 ?k6 ?a7 ?l7 ?c7 ?k7 ?a8 ?l8 ?c8 ?k8 ?a9 ?l9 ?c9 ?k9 ?a10 ?l10 ?c10 ?k10 ?a11 ?l11 ?c11 ?k11 ?a12 ?l12 ?c12 ?k12 ?a13 ?l13 ?c13 ?k13 ?a14 ?l14 ?c14 ?k14 ?a15 ?l15 ?c15 ?k15 ?a16 ?l16 ?c16 ?k16 ?a17 ?l17 ?c17 ?k17 ?a18 ?l18 ?c18 ?k18 ?a19 ?l19 ?c19 ?k19 ?a20 ?l20 ?c20 ?k20 ?a21 ?l21 ?c21 ?k21 ?a22 ?l22 ?c22 ?k22 ?a23 ?l23 ?c23 ?k23 ?a24 ?l24 ?c24 ?k24 ?a25 ?l25 ?c25 ?k25 ?a26 ?l26 ?c26 ?k26 ?a27 ?l27 ?c27 ?k27 ?a28 ?l28 ?c28 ?k28 ?a29 ?l29 ?c29 ?k29 ?a30 ?l30 ?c30 ?k30 ?a31 ?i31 ?l31 ?c31 ?k31 ?a32 ?l32 ?c32 ?k32 ?a33 ?i33 ?l33 ?c33 ?k33 ?a34 ?l34 ?c34 ?k34 ?a35 ?l35 ?c35 ?k35 ?a36 ?l36 ?c36 ?k36 ?a37 ?l37 ?c37 ?k37 ?a38 ?l38 ?c38 ?k38 ?a39 ?l39 ?c39 ?k39 ?a40 ?l40 ?c40 ?k40 ?pgBook ?hdBook ?poBook ?saBook ?mkBook ?kcBook ?sfBook ?naBook_kinds ?z_len ?z_int ?z_min ?z_max ?z_range ?z_list ?z_tuple ?z_isinstance ?z_str ?z_bool ?z_sum ?z_sorted ?z_repr ?z_iter ?z_enumerate ?z_zip ?z_reversed ?z_any ?z_all ?z_abs ?z_set ?z_dict ?z_ValueError
    (case aDBook => k_is)
    (case a0 => k_is)
    (case l0 => k_is)
    (case c0 => k_is)
    (case k0 => k_is)
    (case a1 => k_is)
    (case l1 => k_is)
    (case c1 => k_is)
    (case k1 => k_is)
    (case a2 => k_is)
    (case l2 => k_is)
    (case c2 => k_is)
    (case k2 => k_is)
    (case a3 => k_is)
    (case l3 => k_is)
    (case c3 => k_is)
    (case k3 => k_is)
    (case a4 => k_is)
    (case l4 => k_is)
    (case c4 => k_is)
    (case k4 => k_is)
    (case a5 => k_is)
    (case l5 => k_is)
    (case c5 => k_is)
    (case k5 => k_is)
    (case a6 => k_is)
    (case l6 => k_is)
    (case c6 => k_is)
    (case k6 => k_is)
    (case a7 => k_is)
    (case l7 => k_is)
    (case c7 => k_is)
    (case k7 => k_is)
    (case a8 => k_is)
    (case l8 => k_is)
    (case c8 => k_is)
    (case k8 => k_is)
    (case a9 => k_is)
    (case l9 => k_is)
    (case c9 => k_is)
    (case k9 => k_is)
    (case a10 => k_is)
    (case l10 => k_is)
    (case c10 => k_is)
    (case k10 => k_is)
    (case a11 => k_is)
    (case l11 => k_is)
    (case c11 => k_is)
    (case k11 => k_is)
    (case a12 => k_is)
    (case l12 => k_is)
    (case c12 => k_is)
    (case k12 => k_is)
    (case a13 => k_is)
    (case l13 => k_is)
    (case c13 => k_is)
    (case k13 => k_is)
    (case a14 => k_is)
    (case l14 => k_is)
    (case c14 => k_is)
    (case k14 => k_is)
    (case a15 => k_is)
    (case l15 => k_is)
    (case c15 => k_is)
    (case k15 => k_is)
    (case a16 => k_is)
    (case l16 => k_is)
    (case c16 => k_is)
    (case k16 => k_is)
    (case a17 => k_is)
    (case l17 => k_is)
    (case c17 => k_is)
    (case k17 => k_is)
    (case a18 => k_is)
    (case l18 => k_is)
    (case c18 => k_is)
    (case k18 => k_is)
    (case a19 => k_is)
    (case l19 => k_is)
    (case c19 => k_is)
    (case k19 => k_is)
    (case a20 => k_is)
    (case l20 => k_is)
    (case c20 => k_is)
    (case k20 => k_is)
    (case a21 => k_is)
    (case l21 => k_is)
    (case c21 => k_is)
    (case k21 => k_is)
    (case a22 => k_is)
    (case l22 => k_is)
    (case c22 => k_is)
    (case k22 => k_is)
    (case a23 => k_is)
    (case l23 => k_is)
    (case c23 => k_is)
    (case k23 => k_is)
    (case a24 => k_is)
    (case l24 => k_is)
    (case c24 => k_is)
    (case k24 => k_is)
    (case a25 => k_is)
    (case l25 => k_is)
    (case c25 => k_is)
    (case k25 => k_is)
    (case a26 => k_is)
    (case l26 => k_is)
    (case c26 => k_is)
    (case k26 => k_is)
    (case a27 => k_is)
    (case l27 => k_is)
    (case c27 => k_is)
    (case k27 => k_is)
    (case a28 => k_is)
    (case l28 => k_is)
    (case c28 => k_is)
    (case k28 => k_is)
    (case a29 => k_is)
    (case l29 => k_is)
    (case c29 => k_is)
    (case k29 => k_is)
    (case a30 => k_is)
    (case l30 => k_is)
    (case c30 => k_is)
    (case k30 => k_is)
    (case a31 => k_is)
    (case i31 => k_is)
    (case l31 => k_is)
    (case c31 => k_is)
    (case k31 => k_is)
    (case a32 => k_is)
    (case l32 => k_is)
    (case c32 => k_is)
    (case k32 => k_is)
    (case a33 => k_is)
    (case i33 => k_is)
    (case l33 => k_is)
    (case c33 => k_is)
    (case k33 => k_is)
    (case a34 => k_is)
    (case l34 => k_is)
    (case c34 => k_is)
    (case k34 => k_is)
    (case a35 => k_is)
    (case l35 => k_is)
    (case c35 => k_is)
    (case k35 => k_is)
    (case a36 => k_is)
    (case l36 => k_is)
    (case c36 => k_is)
    (case k36 => k_is)
    (case a37 => k_is)
    (case l37 => k_is)
    (case c37 => k_is)
    (case k37 => k_is)
    (case a38 => k_is)
    (case l38 => k_is)
    (case c38 => k_is)
    (case k38 => k_is)
    (case a39 => k_is)
    (case l39 => k_is)
    (case c39 => k_is)
    (case k39 => k_is)
    (case a40 => k_is)
    (case l40 => k_is)
    (case c40 => k_is)
    (case k40 => k_is)
    (case pgBook => k_is)
    (case hdBook => k_is)
    (case poBook => k_is)
    (case saBook => k_is)
    (case mkBook => k_is)
    (case kcBook => k_is)
    (case sfBook => k_is)
    (case naBook_kinds => k_is)
    (case z_len => k_is)
    (case z_int => k_is)
    (case z_min => k_is)
    (case z_max => k_is)
    (case z_range => k_is)
    (case z_list => k_is)
    (case z_tuple => k_is)
    (case z_isinstance => k_is)
    (case z_str => k_is)
    (case z_bool => k_is)
    (case z_sum => k_is)
    (case z_sorted => k_is)
    (case z_repr => k_is)
    (case z_iter => k_is)
    (case z_enumerate => k_is)
    (case z_zip => k_is)
    (case z_reversed => k_is)
    (case z_any => k_is)
    (case z_all => k_is)
    (case z_abs => k_is)
    (case z_set => k_is)
    (case z_dict => k_is)
    (case z_ValueError => k_is)
#print axioms PySem.Challenge.cw_endsalike_k08_live_and_landings_holds
