import PyProof.Rows.All
import Wide.All
import OpenK.AllK
import Wide.FinOn
import HandS.ForMost
import HandS.TupMul
import HandS.TupAny
import HandS.Conv
import HandS.IsInst
import HandS.Style
import HandS.Wide
import HandS.Evl
import HandS.Deep
import HandS.Exc
import HandS.Nested
import HandS.Lambda
import HandS.CallLocal
import HandS.EndBits
import HandS.EndTab
import HandS.SortInts
import PyProof.SumAnyB
import PySem.Challenge.RW_sumsaid_k06_patterns_of_sets
set_option Elab.async false
set_option linter.all false
set_option maxRecDepth 100000
set_option maxHeartbeats 4000000
/-! Ab: the heap-free layer. Data are PyData; a def's body is read over an environment of data. -/
namespace Ab
open PySem PySem.Spec PyProof.Rows L2

/-! ### data without lists -/
mutual
def imm : PyData → Bool
  | .none => true
  | .bool _ => true
  | .int _ => true
  | .str _ => true
  | .tuple xs => immAll xs
  | .list _ => false
  | .dict _ => false
def immAll : List PyData → Bool
  | [] => true
  | x :: xs => imm x && immAll xs
end
theorem immAll_append : ∀ xs ys : List PyData, immAll (xs ++ ys) = (immAll xs && immAll ys)
  | [], ys => by simp [immAll]
  | x :: xs, ys => by simp [immAll, immAll_append xs ys, Bool.and_assoc]
theorem immAll_get {xs : List PyData} (h : immAll xs = true) : ∀ {i : Nat} {x : PyData}, xs[i]? = some x → imm x = true := by
  induction xs with
  | nil => intro i x e; simp at e
  | cons y ys ih =>
    intro i x e
    simp only [immAll, Bool.and_eq_true] at h
    cases i with
    | zero => simp at e; subst e; exact h.1
    | succ i => simp at e; exact ih h.2 e
theorem immAll_of {xs : List PyData} (h : ∀ x ∈ xs, imm x = true) : immAll xs = true := by
  induction xs with
  | nil => rfl
  | cons y ys ih =>
    simp only [immAll, Bool.and_eq_true]
    exact ⟨h y (by simp), ih fun x hx => h x (by simp [hx])⟩
theorem immAll_mem {xs : List PyData} (h : immAll xs = true) {x : PyData} (hx : x ∈ xs) : imm x = true := by
  obtain ⟨i, hi, e⟩ := List.getElem_of_mem hx
  exact immAll_get h (List.getElem?_eq_some_iff.mpr ⟨hi, e⟩)

/-- tuples stay -/
def TEx (H H' : Hp) : Prop := ∀ a xs, Rd H a (.tup xs) → Rd H' a (.tup xs)
/-- all stays but what stands at S -/
structure Fx (S : List Addr) (H H' : Hp) : Prop where
  keep : ∀ a o, a ∉ S → H a = some o → H' a = some o
  tup : TEx H H'
theorem Fx.refl {S : List Addr} (H : Hp) : Fx S H H := ⟨fun _ _ _ h => h, fun _ _ h => h⟩
theorem Fx.trans {S : List Addr} {H H1 H2 : Hp} (a : Fx S H H1) (b : Fx S H1 H2) : Fx S H H2 :=
  ⟨fun x o n h => b.keep x o n (a.keep x o n h), fun x xs h => b.tup x xs (a.tup x xs h)⟩
theorem Fx.mono {S T : List Addr} {H H' : Hp} (a : Fx S H H') (h : ∀ x ∈ S, x ∈ T) : Fx T H H' := ⟨fun x o n e => a.keep x o (fun z => n (h x z)) e, a.tup⟩
theorem Fx.nil {S : List Addr} {H H' : Hp} (a : Fx [] H H') : Fx S H H' := a.mono fun _ h => by simp at h
theorem rd_keep {S : List Addr} {H H' : Hp} {a : Addr} {u : HO} (e : Fx S H H') (n : a ∉ S) (h : Rd H a u) : Rd H' a u := by
  rcases h with h | ⟨o, h⟩
  · exact .inl (e.keep _ _ n h)
  · exact .inr ⟨o, e.keep _ _ n h⟩
theorem sqL_keep {K : PySem.W.Frag} {S : List Addr} {H H' : Hp} {a : Addr} {xs : List V} (e : Fx S H H') (n : a ∉ S) (h : SqL K H a xs) : SqL K H' a xs := by
  rcases h with h | h
  · exact .inl (rd_keep e n h)
  · exact .inr h
theorem sqT_keep {K : PySem.W.Frag} {H H' : Hp} {a : Addr} {xs : List V} (e : TEx H H') (h : SqT K H a xs) : SqT K H' a xs := by
  rcases h with h | h
  · exact .inl (e _ _ h)
  · exact .inr h
theorem Fx.free {S : List Addr} {H H' : Hp} {p : Addr} (e : Fx S H H') (n : p ∉ S) (h : H' p = none) : H p = none := by
  cases h1 : H p with
  | none => rfl
  | some o => rw [e.keep p o n h1] at h; cases h
theorem Fx.new {S : List Addr} {H : Hp} {p : Addr} {o : HO} (h : H p = none) : Fx S H (upd H p o) :=
  ⟨fun a u _ e => by rw [upd_ne (ne_of_none e h)]; exact e, fun a xs r => by
    rcases r with r | ⟨u, r⟩
    · exact .inl (by rw [upd_ne (ne_of_none r h)]; exact r)
    · exact .inr ⟨u, by rw [upd_ne (ne_of_none r h)]; exact r⟩⟩
/-- a list is changed -/
theorem tex_lst {H : Hp} {p : Addr} {xs : List V} {o : HO} (h : H p = some (.lst xs)) : TEx H (upd H p o) := fun a ys r => by
  rcases r with r | ⟨u, r⟩
  · exact .inl (by rw [upd_ne (ne_of r h (by intro z; cases z))]; exact r)
  · exact .inr ⟨u, by rw [upd_ne (ne_of r h (by intro z; cases z))]; exact r⟩

mutual
theorem dp_mono {K : PySem.W.Frag} {H H' : Hp} (e : TEx H H') : ∀ (d : PyData) (v : V), imm d = true → Dp K H v d → Dp K H' v d
  | .none, _, _, h => by cases h; exact .non
  | .bool _, _, _, h => by cases h; exact .bl _
  | .int _, _, _, h => by cases h; exact .int _
  | .str _, _, _, h => by cases h; exact .str _
  | .tuple xs, _, hi, h => by
    cases h with
    | tup hs ha => exact .tup (sqT_keep e hs) (dpAll_mono e xs _ (by simpa [imm] using hi) ha)
  | .list _, _, hi, _ => by simp [imm] at hi
  | .dict _, _, hi, _ => by simp [imm] at hi
theorem dpAll_mono {K : PySem.W.Frag} {H H' : Hp} (e : TEx H H') : ∀ (ds : List PyData) (vs : List V), immAll ds = true → DpAll K H vs ds → DpAll K H' vs ds
  | [], _, _, h => by cases h; exact .nil
  | d :: ds, _, hi, h => by
    simp only [immAll, Bool.and_eq_true] at hi
    cases h with
    | cons h1 h2 => exact .cons (dp_mono e d _ hi.1 h1) (dpAll_mono e ds _ hi.2 h2)
end
theorem dpAll_length {K : PySem.W.Frag} {H : Hp} : ∀ {vs : List V} {ds : List PyData}, DpAll K H vs ds → vs.length = ds.length
  | _, _, .nil => rfl
  | _, _, .cons _ t => by rw [List.length_cons, List.length_cons, dpAll_length t]
theorem dpAll_append {K : PySem.W.Frag} {H : Hp} : ∀ {vs ws : List V} {ds es : List PyData}, DpAll K H vs ds → DpAll K H ws es → DpAll K H (vs ++ ws) (ds ++ es)
  | _, _, _, _, .nil, s => s
  | _, _, _, _, .cons a t, s => .cons a (dpAll_append t s)
theorem dpAll_get {K : PySem.W.Frag} {H : Hp} : ∀ {vs : List V} {ds : List PyData} {i : Nat} {d : PyData}, DpAll K H vs ds → ds[i]? = some d → ∃ v, vs[i]? = some v ∧ Dp K H v d
  | _, _, _, _, .nil, e => by simp at e
  | _, _, 0, _, .cons a t, e => by simp at e; subst e; exact ⟨_, rfl, a⟩
  | _, _, i + 1, d, .cons a t, e => by
    obtain ⟨v, h1, h2⟩ := dpAll_get (i := i) (d := d) t (by simpa using e)
    exact ⟨v, by simpa using h1, h2⟩
theorem dpAll_getV {K : PySem.W.Frag} {H : Hp} : ∀ {vs : List V} {ds : List PyData} {i : Nat} {v : V}, DpAll K H vs ds → vs[i]? = some v → ∃ d, ds[i]? = some d ∧ Dp K H v d
  | _, _, _, _, .nil, e => by simp at e
  | _, _, 0, _, .cons a t, e => by simp at e; subst e; exact ⟨_, rfl, a⟩
  | _, _, i + 1, d, .cons a t, e => by
    obtain ⟨v, h1, h2⟩ := dpAll_getV (i := i) t (by simpa using e)
    exact ⟨v, by simpa using h1, h2⟩
theorem dpAll_take {K : PySem.W.Frag} {H : Hp} : ∀ {vs : List V} {ds : List PyData} (n : Nat), DpAll K H vs ds → DpAll K H (vs.take n) (ds.take n)
  | _, _, 0, _ => .nil
  | _, _, _ + 1, .nil => .nil
  | _, _, n + 1, .cons a t => .cons a (dpAll_take n t)
theorem dpAll_drop {K : PySem.W.Frag} {H : Hp} : ∀ {vs : List V} {ds : List PyData} (n : Nat), DpAll K H vs ds → DpAll K H (vs.drop n) (ds.drop n)
  | _, _, 0, h => h
  | _, _, _ + 1, .nil => .nil
  | _, _, n + 1, .cons _ t => dpAll_drop n t
theorem dpAll_set {K : PySem.W.Frag} {H : Hp} {v : V} {d : PyData} (h : Dp K H v d) : ∀ {vs : List V} {ds : List PyData} (n : Nat), DpAll K H vs ds → DpAll K H (vs.set n v) (ds.set n d)
  | _, _, 0, .nil => .nil
  | _, _, _ + 1, .nil => .nil
  | _, _, 0, .cons _ t => .cons h t
  | _, _, n + 1, .cons a t => .cons a (dpAll_set h n t)
theorem immAll_take {xs : List PyData} (n : Nat) (h : immAll xs = true) : immAll (xs.take n) = true := immAll_of fun x hx => immAll_mem h (List.mem_of_mem_take hx)
theorem immAll_drop {xs : List PyData} (n : Nat) (h : immAll xs = true) : immAll (xs.drop n) = true := immAll_of fun x hx => immAll_mem h (List.mem_of_mem_drop hx)
theorem immAll_set {xs : List PyData} (n : Nat) {d : PyData} (hd : imm d = true) (h : immAll xs = true) : immAll (xs.set n d) = true := immAll_of fun x hx => by
  rcases List.mem_or_eq_of_mem_set hx with z | z
  · exact immAll_mem h z
  · rw [z]; exact hd

/-! ### contexts, environments -/
/-- S: lists that callers own and that may change here, J what stands of them; H0: the heap at the entry -/
structure Ctx where
  K : PySem.W.Frag
  S : List Addr
  J : Hp → Prop
  H0 : Hp
structure Ctx.Ok (c : Ctx) : Prop where
  j0 : c.J c.H0
  sj : ∀ H, c.J H → ∀ s ∈ c.S, H s ≠ none
  jst : ∀ H H', c.J H → (∀ a o, (c.H0 a ≠ none ∨ ∀ xs, o ≠ .lst xs) → H a = some o → H' a = some o) → c.J H'

/-- what a slot holds: data; a list of the entry heap that is read; an own list; a thing by what is true of it -/
inductive G where
  | dat (d : PyData)
  | vw (ds : List PyData)
  | own (ds : List PyData)
  | obj (p : V → Prop)
/-- what an expression gives: data; a new list; a list of the entry heap that is read; an own list that is read; a thing -/
inductive RV where
  | dat (d : PyData)
  | new (ds : List PyData)
  | vw (ds : List PyData)
  | al (ds : List PyData)
  | obj (p : V → Prop)
abbrev Gam := List (Option G)
/-- a slot read -/
def G.rv : G → RV
  | .dat d => .dat d
  | .vw ds => .vw ds
  | .own ds => .al ds
  | .obj p => .obj p

def GR (c : Ctx) (H : Hp) (v : V) : G → Prop
  | .dat d => Dp c.K H v d ∧ imm d = true
  | .vw ds => ∃ a vs, v = .ref a ∧ a ∉ c.S ∧ SqL c.K c.H0 a vs ∧ DpAll c.K H vs ds ∧ immAll ds = true
  | .own ds => ∃ a vs, v = .ref a ∧ c.H0 a = none ∧ a ∉ c.S ∧ H a = some (.lst vs) ∧ DpAll c.K H vs ds ∧ immAll ds = true
  | .obj p => p v
def RR (c : Ctx) (H H' : Hp) (v : V) : RV → Prop
  | .dat d => Dp c.K H' v d ∧ imm d = true
  | .new ds => ∃ a vs, v = .ref a ∧ H a = none ∧ a ∉ c.S ∧ H' a = some (.lst vs) ∧ DpAll c.K H' vs ds ∧ immAll ds = true
  | .vw ds => ∃ a vs, v = .ref a ∧ a ∉ c.S ∧ SqL c.K c.H0 a vs ∧ SqL c.K H' a vs ∧ DpAll c.K H' vs ds ∧ immAll ds = true
  | .al ds => ∃ a vs, v = .ref a ∧ a ∉ c.S ∧ SqL c.K H' a vs ∧ DpAll c.K H' vs ds ∧ immAll ds = true
  | .obj p => p v
theorem RR.mono {c : Ctx} {H H1 H2 : Hp} {v : V} {r : RV} (h : RR c H H1 v r) (e : Fx c.S H1 H2) : RR c H H2 v r := by
  cases r with
  | dat d => exact ⟨dp_mono e.tup d v h.2 h.1, h.2⟩
  | new ds =>
    obtain ⟨a, vs, rfl, h1, h2, h3, h4, h5⟩ := h
    exact ⟨a, vs, rfl, h1, h2, e.keep _ _ h2 h3, dpAll_mono e.tup ds vs h5 h4, h5⟩
  | vw ds =>
    obtain ⟨a, vs, rfl, h2, h0, h3, h4, h5⟩ := h
    exact ⟨a, vs, rfl, h2, h0, sqL_keep e h2 h3, dpAll_mono e.tup ds vs h5 h4, h5⟩
  | al ds =>
    obtain ⟨a, vs, rfl, h2, h3, h4, h5⟩ := h
    exact ⟨a, vs, rfl, h2, sqL_keep e h2 h3, dpAll_mono e.tup ds vs h5 h4, h5⟩
  | obj p => exact h
/-- new from an earlier heap on -/
theorem RR.back {c : Ctx} {H0 H H1 : Hp} {v : V} {r : RV} (h : RR c H H1 v r) (e : Fx c.S H0 H) : RR c H0 H1 v r := by
  cases r with
  | new ds =>
    obtain ⟨a, vs, rfl, h1, h2, h3, h4, h5⟩ := h
    exact ⟨a, vs, rfl, e.free h2 h1, h2, h3, h4, h5⟩
  | dat d => exact h
  | vw ds => exact h
  | al ds => exact h
  | obj p => exact h

structure At (c : Ctx) (σ : L2.St) (H : Hp) (Γ : Gam) : Prop where
  ok : c.Ok
  len : σ.length = Γ.length
  slot : ∀ (i : Nat) g, Γ[i]? = some (some g) → ∃ v, σ[i]? = some (some v) ∧ GR c H v g
  sep : ∀ (i j : Nat) v ds es, Γ[i]? = some (some (.own ds)) → Γ[j]? = some (some (.own es)) → σ[i]? = some (some v) → σ[j]? = some (some v) → i = j
  kp : Fx c.S c.H0 H
  J : c.J H
theorem At.fresh {c : Ctx} {σ : L2.St} {H : Hp} {Γ : Gam} (a : At c σ H Γ) {p : Addr} (h : H p = none) : p ∉ c.S ∧ c.H0 p = none := by
  have n : p ∉ c.S := fun z => a.ok.sj H a.J p z h
  exact ⟨n, a.kp.free n h⟩
/-- the heap grows -/
theorem At.grow {c : Ctx} {σ : L2.St} {H H' : Hp} {Γ : Gam} (a : At c σ H Γ) (e : Fx c.S H H') (j : c.J H') : At c σ H' Γ := by
  refine ⟨a.ok, a.len, fun i g h => ?_, a.sep, a.kp.trans e, j⟩
  obtain ⟨v, hv, r⟩ := a.slot i g h
  refine ⟨v, hv, ?_⟩
  cases g with
  | dat d => exact ⟨dp_mono e.tup d v r.2 r.1, r.2⟩
  | vw ds =>
    obtain ⟨x, vs, rfl, h1, h2, h3, h4⟩ := r
    exact ⟨x, vs, rfl, h1, h2, dpAll_mono e.tup ds vs h4 h3, h4⟩
  | own ds =>
    obtain ⟨x, vs, rfl, h1, h2, h3, h4, h5⟩ := r
    exact ⟨x, vs, rfl, h1, h2, e.keep _ _ h2 h3, dpAll_mono e.tup ds vs h5 h4, h5⟩
  | obj p => exact r
theorem At.ext {c : Ctx} {σ : L2.St} {H H' : Hp} {Γ : Gam} (a : At c σ H Γ) (e : Fx [] H H') : At c σ H' Γ :=
  a.grow e.nil (a.ok.jst H H' a.J fun x o _ h => e.keep x o (by simp) h)
theorem At.new {c : Ctx} {σ : L2.St} {H : Hp} {Γ : Gam} (a : At c σ H Γ) {p : Addr} {o : HO} (h : H p = none) : At c σ (upd H p o) Γ := a.ext (Fx.new h)

/-! ### the transformers and what they mean -/
abbrev XE := Gam → (RV → Prop) → Prop
abbrev XT := Gam → (Bool → Prop) → Prop
abbrev XA := Gam → (List RV → Prop) → Prop
structure AD where
  nx : Gam → Prop
  bk : Gam → Prop
  ct : Gam → Prop
  rt : RV → Prop
abbrev XS := AD → Gam → Prop

def gE (c : Ctx) (A : XE) : TE := fun σ H Q => ∃ Γ P, At c σ H Γ ∧ A Γ P ∧ ∀ v H' r, Fx c.S H H' → At c σ H' Γ → RR c H H' v r → P r → Q v H'
def gT (c : Ctx) (A : XT) : TT := fun σ H Q => ∃ Γ P, At c σ H Γ ∧ A Γ P ∧ ∀ b H', Fx c.S H H' → At c σ H' Γ → P b → Q b H'
abbrev RRs (c : Ctx) (H H' : Hp) : List V → List RV → Prop := Paired (RR c H H')
theorem RRs.mono {c : Ctx} {H H1 H2 : Hp} {vs : List V} {rs : List RV} (h : RRs c H H1 vs rs) (e : Fx c.S H1 H2) : RRs c H H2 vs rs := Paired.mapP h fun _ _ r => r.mono e
theorem RRs.back {c : Ctx} {H0 H H1 : Hp} {vs : List V} {rs : List RV} (h : RRs c H H1 vs rs) (e : Fx c.S H0 H) : RRs c H0 H1 vs rs := Paired.mapP h fun _ _ r => r.back e
def gA (c : Ctx) (A : XA) : TA := fun σ H Q => ∃ Γ P, At c σ H Γ ∧ A Γ P ∧ ∀ vs H' rs, Fx c.S H H' → At c σ H' Γ → RRs c H H' vs rs → P rs → Q vs H'
/-- the ends of a statement -/
structure Ends2 (c : Ctx) (D : AD) (E : Ends) : Prop where
  nx : ∀ Γ σ H, D.nx Γ → At c σ H Γ → E.nx σ H
  bk : ∀ Γ σ H, D.bk Γ → At c σ H Γ → E.bk σ H
  ct : ∀ Γ σ H, D.ct Γ → At c σ H Γ → E.ct σ H
  rt : ∀ v H r, Fx c.S c.H0 H → c.J H → RR c c.H0 H v r → D.rt r → E.rt v H
def gS (c : Ctx) (A : XS) : TS := fun E σ H => ∃ Γ D, At c σ H Γ ∧ A D Γ ∧ Ends2 c D E

structure PEa (X : Cx) (c : Ctx) (e : Expr) (A : XE) : Prop where
  pe : PE X e (gE c A)
structure PTa (X : Cx) (c : Ctx) (e : Expr) (A : XT) : Prop where
  pt : PT X e (gT c A)
structure PWa (X : Cx) (c : Ctx) (e : Expr) (A : XT) : Prop where
  pw : PW X e (gT c A)
structure PAa (X : Cx) (c : Ctx) (es : List Expr) (A : XA) : Prop where
  pa : PA X es (gA c A)
structure PSa (X : Cx) (c : Ctx) (s : Stmt) (A : XS) : Prop where
  ps : PS X s (gS c A)
structure PSsa (X : Cx) (c : Ctx) (s : List Stmt) (A : XS) : Prop where
  ps : PSs X s (gS c A)

section
variable {X : Cx} {c : Ctx}
theorem pe_imp {e : Expr} {t u : TE} (h : PE X e t) (w : ∀ σ H Q, u σ H Q → t σ H Q) : PE X e u := ⟨fun pins s σ H Q I hu => h.run pins s σ H Q I (w _ _ _ hu)⟩
theorem pt_imp {e : Expr} {t u : TT} (h : PT X e t) (w : ∀ σ H Q, u σ H Q → t σ H Q) : PT X e u := ⟨fun pins s σ H Q I hu => h.run pins s σ H Q I (w _ _ _ hu)⟩
theorem pw_imp {e : Expr} {t u : TT} (h : PW X e t) (w : ∀ σ H Q, u σ H Q → t σ H Q) : PW X e u := ⟨fun whole pins s σ H Q I hu => h.run whole pins s σ H Q I (w _ _ _ hu)⟩
theorem pa_imp {e : List Expr} {t u : TA} (h : PA X e t) (w : ∀ σ H Q, u σ H Q → t σ H Q) : PA X e u := ⟨fun pos pins s σ H Q I hu => h.run pos pins s σ H Q I (w _ _ _ hu)⟩
theorem ps_imp {e : Stmt} {t u : TS} (h : PS X e t) (w : ∀ D σ H, u D σ H → t D σ H) : PS X e u := ⟨fun pins s σ H D I hu => h.run pins s σ H D I (w _ _ _ hu)⟩
theorem pss_imp {e : List Stmt} {t u : TS} (h : PSs X e t) (w : ∀ D σ H, u D σ H → t D σ H) : PSs X e u := ⟨fun pins s σ H D I hu => h.run pins s σ H D I (w _ _ _ hu)⟩
end
end Ab

namespace Ab
open PySem PySem.Spec PyProof.Rows L2

/-! ### expressions -/
/-- a value read off: what an operator sees -/
def RO (c : Ctx) (H : Hp) (v : V) (r : RV) : Prop := ∃ Hs, RR c Hs H v r
theorem RO.mono {c : Ctx} {H H' : Hp} {v : V} {r : RV} (h : RO c H v r) (e : Fx c.S H H') : RO c H' v r := let ⟨Hs, q⟩ := h; ⟨Hs, q.mono e⟩
theorem RR.ro {c : Ctx} {H H' : Hp} {v : V} {r : RV} (h : RR c H H' v r) : RO c H' v r := ⟨_, h⟩
theorem RO.dat {c : Ctx} {H : Hp} {v : V} {d : PyData} (h : RO c H v (.dat d)) : Dp c.K H v d ∧ imm d = true := let ⟨_, q⟩ := h; q
/-- a list that is read -/
def RV.lst? : RV → Option (List PyData)
  | .new ds => some ds
  | .vw ds => some ds
  | .al ds => some ds
  | _ => none
theorem RO.lst {c : Ctx} {H : Hp} {v : V} {r : RV} {ds : List PyData} (h : RO c H v r) (e : r.lst? = some ds) : ∃ a vs, v = .ref a ∧ a ∉ c.S ∧ SqL c.K H a vs ∧ DpAll c.K H vs ds ∧ immAll ds = true := by
  obtain ⟨Hs, h⟩ := h
  cases r with
  | new es =>
    obtain ⟨a, vs, rfl, h1, h2, h3, h4, h5⟩ := h
    cases e
    exact ⟨a, vs, rfl, h2, SqL.of h3, h4, h5⟩
  | vw es =>
    obtain ⟨a, vs, rfl, h2, _, h3, h4, h5⟩ := h
    cases e
    exact ⟨a, vs, rfl, h2, h3, h4, h5⟩
  | al es =>
    obtain ⟨a, vs, rfl, h2, h3, h4, h5⟩ := h
    cases e
    exact ⟨a, vs, rfl, h2, h3, h4, h5⟩
  | dat d => cases e
  | obj p => cases e
theorem RO.tup {c : Ctx} {H : Hp} {v : V} {ds : List PyData} (h : RO c H v (.dat (.tuple ds))) : ∃ a vs, v = .ref a ∧ SqT c.K H a vs ∧ DpAll c.K H vs ds ∧ immAll ds = true := by
  obtain ⟨h1, h2⟩ := h.dat
  cases h1 with
  | tup a b => exact ⟨_, _, rfl, a, b, by simpa [imm] using h2⟩
theorem RO.int {c : Ctx} {H : Hp} {v : V} {i : Int} (h : RO c H v (.dat (.int i))) : v = .int i := by
  obtain ⟨h1, _⟩ := h.dat
  cases h1; rfl
theorem RO.bl {c : Ctx} {H : Hp} {v : V} {i : Bool} (h : RO c H v (.dat (.bool i))) : v = .bl i := by
  obtain ⟨h1, _⟩ := h.dat
  cases h1; rfl
theorem RO.str {c : Ctx} {H : Hp} {v : V} {i : Str} (h : RO c H v (.dat (.str i))) : v = .str i := by
  obtain ⟨h1, _⟩ := h.dat
  cases h1; rfl
theorem RO.non {c : Ctx} {H : Hp} {v : V} (h : RO c H v (.dat .none)) : v = .non := by
  obtain ⟨h1, _⟩ := h.dat
  cases h1; rfl
theorem RO.dp {c : Ctx} {H : Hp} {v : V} {r : RV} (h : RO c H v r) : (∀ d, r = .dat d → Dp c.K H v d) ∧ ∀ ds, r.lst? = some ds → Dp c.K H v (.list ds) := by
  refine ⟨fun d e => by subst e; exact h.dat.1, fun ds e => ?_⟩
  obtain ⟨a, vs, rfl, _, h2, h3, _⟩ := h.lst e
  exact .lst h2 h3
theorem rr_dat {c : Ctx} {H H' : Hp} {v : V} {d : PyData} (h : Dp c.K H' v d ∧ imm d = true) : RR c H H' v (.dat d) := h
theorem rr_int {c : Ctx} {H H' : Hp} (i : Int) : RR c H H' (.int i) (.dat (.int i)) := ⟨.int i, rfl⟩
theorem rr_bl {c : Ctx} {H H' : Hp} (i : Bool) : RR c H H' (.bl i) (.dat (.bool i)) := ⟨.bl i, rfl⟩
theorem rr_str {c : Ctx} {H H' : Hp} (i : Str) : RR c H H' (.str i) (.dat (.str i)) := ⟨.str i, rfl⟩
theorem rr_non {c : Ctx} {H H' : Hp} : RR c H H' .non (.dat .none) := ⟨.non, rfl⟩
theorem rr_tup {c : Ctx} {H H' : Hp} {q : Addr} {vs : List V} {ds : List PyData} (h : H' q = some (.tup vs)) (d : DpAll c.K H' vs ds) (i : immAll ds = true) : RR c H H' (.ref q) (.dat (.tuple ds)) := ⟨.tup (SqT.of h) d, by simpa [imm] using i⟩
theorem rr_new {c : Ctx} {H H' : Hp} {q : Addr} {vs : List V} {ds : List PyData} (hq : H q = none) (n : q ∉ c.S) (h : H' q = some (.lst vs)) (d : DpAll c.K H' vs ds) (i : immAll ds = true) : RR c H H' (.ref q) (.new ds) := ⟨q, vs, rfl, hq, n, h, d, i⟩
/-- as data (for ==) -/
def RV.dt? : RV → Option PyData
  | .dat d => some d
  | .new ds => some (.list ds)
  | .vw ds => some (.list ds)
  | .al ds => some (.list ds)
  | .obj _ => none
theorem RO.dt {c : Ctx} {H : Hp} {v : V} {r : RV} {d : PyData} (h : RO c H v r) (e : r.dt? = some d) : Dp c.K H v d := by
  cases r with
  | dat x => cases e; exact h.dat.1
  | new ds => cases e; exact h.dp.2 ds rfl
  | vw ds => cases e; exact h.dp.2 ds rfl
  | al ds => cases e; exact h.dp.2 ds rfl
  | obj p => cases e

section
variable {X : Cx} {c : Ctx} {e a b : Expr} {A B : XE} {pos : Pos}

def aVar (i : Nat) : XE := fun Γ P => ∃ g, Γ[i]? = some (some g) ∧ P g.rv
theorem gr_rr {H : Hp} {v : V} {g : G} {σ : L2.St} {Γ : Gam} (at_ : At c σ H Γ) (h : GR c H v g) : RR c H H v g.rv := by
  cases g with
  | dat d => exact h
  | vw ds =>
    obtain ⟨x, vs, rfl, h1, h2, h3, h4⟩ := h
    exact ⟨x, vs, rfl, h1, h2, sqL_keep at_.kp h1 h2, h3, h4⟩
  | own ds =>
    obtain ⟨x, vs, rfl, h1, h2, h3, h4, h5⟩ := h
    exact ⟨x, vs, rfl, h2, SqL.of h3, h4, h5⟩
  | obj p => exact h
theorem ae_var (i : Nat) {x : Str} (hN : X.N[i]? = some x := by rfl) (hv : Vis X.env.scope x := by first | exact Or.inl rfl | exact Or.inr (Or.inl rfl) | exact Or.inr (Or.inr rfl)) (hd : (x == ("__debug__" : Str)) = false := by decide)
    (hcd : (x == ("__classdict__" : Str)) = false := by decide) : PEa X c (.Name x pos) (aVar i) := ⟨pe_imp (pe_var hN hv hd hcd) fun σ H Q ⟨Γ, P, at_, ⟨g, hg, p⟩, k⟩ => by
  obtain ⟨v, hv, r⟩ := at_.slot i g hg
  exact ⟨v, hv, k v H g.rv (Fx.refl H) at_ (gr_rr at_ r) p⟩⟩

def aC (d : PyData) : XE := fun _ P => P (.dat d)
theorem ae_int {i : Int} {j : Nat} : PEa X c (.Constant (.int i) j pos) (aC (.int i)) := ⟨pe_imp pe_int fun σ H Q ⟨Γ, P, at_, p, k⟩ => k (.int i) H _ (Fx.refl H) at_ (rr_int i) p⟩
theorem ae_bl {i : Bool} {j : Nat} : PEa X c (.Constant (.bool i) j pos) (aC (.bool i)) := ⟨pe_imp pe_bl fun σ H Q ⟨Γ, P, at_, p, k⟩ => k (.bl i) H _ (Fx.refl H) at_ (rr_bl i) p⟩
theorem ae_non {j : Nat} : PEa X c (.Constant .none j pos) (aC .none) := ⟨pe_imp pe_non fun σ H Q ⟨Γ, P, at_, p, k⟩ => k .non H _ (Fx.refl H) at_ rr_non p⟩
theorem ae_str {i : Str} {j : Nat} : PEa X c (.Constant (.str i) j pos) (aC (.str i)) := ⟨pe_imp pe_str fun σ H Q ⟨Γ, P, at_, p, k⟩ => k (.str i) H _ (Fx.refl H) at_ (rr_str i) p⟩
/-- a name of the module that holds an int, a text .. -/
theorem ae_glob {x : Str} {d : PyData} {v : V} {u : Value} (hg : Gl X x) (hm : X.mg x = some u) (r : RelV v u) (hd : ∀ H, Dp c.K H v d ∧ imm d = true) (hdb : (x == ("__debug__" : Str)) = false := by decide) : PEa X c (.Name x pos) (aC d) :=
  ⟨pe_imp (pe_glob hg hm r hdb) fun σ H Q ⟨Γ, P, at_, p, k⟩ => k v H _ (Fx.refl H) at_ (rr_dat (hd H)) p⟩

/-! operators on values -/
abbrev XO := RV → RV → (RV → Prop) → Prop
def gO (c : Ctx) (o : XO) : R2 := fun x y H Q => ∃ rx ry P, (∃ σ Γ, At c σ H Γ) ∧ RO c H x rx ∧ RO c H y ry ∧ o rx ry P ∧ ∀ z H' r, Fx [] H H' → RR c H H' z r → P r → Q z H'
theorem opR_imp {f : Value → Value → Sem Value} {r r' : R2} (h : OpR X f r) (w : ∀ x y H Q, r' x y H Q → r x y H Q) : OpR X f r' := fun pins s σ H x y v u Q I rx ry q => h pins s σ H x y v u Q I rx ry (w _ _ _ _ q)
theorem opR_or {f : Value → Value → Sem Value} {r r' : R2} (h : OpR X f r) (h' : OpR X f r') : OpR X f (fun x y H Q => r x y H Q ∨ r' x y H Q) := fun pins s σ H x y v u Q I rx ry q => by
  rcases q with q | q
  · exact h pins s σ H x y v u Q I rx ry q
  · exact h' pins s σ H x y v u Q I rx ry q
theorem gO_or {o o' : XO} (h : ∀ {f : Value → Value → Sem Value}, True) : gO c (fun x y P => o x y P ∨ o' x y P) = fun x y H Q => gO c o x y H Q ∨ gO c o' x y H Q := by
  funext x y H Q
  apply propext
  constructor
  · rintro ⟨rx, ry, P, a, b, d, e | e, k⟩
    · exact .inl ⟨rx, ry, P, a, b, d, e, k⟩
    · exact .inr ⟨rx, ry, P, a, b, d, e, k⟩
  · rintro (⟨rx, ry, P, a, b, d, e, k⟩ | ⟨rx, ry, P, a, b, d, e, k⟩)
    · exact ⟨rx, ry, P, a, b, d, .inl e, k⟩
    · exact ⟨rx, ry, P, a, b, d, .inr e, k⟩
structure OpA (X : Cx) (c : Ctx) (f : Value → Value → Sem Value) (o : XO) : Prop where
  op : OpR X f (gO c o)
theorem OpA.or {f : Value → Value → Sem Value} {o o' : XO} (h : OpA X c f o) (h' : OpA X c f o') : OpA X c f (fun x y P => o x y P ∨ o' x y P) := ⟨by
  rw [gO_or (o := o) (o' := o') fun {_} => True.intro]
  exact opR_or h.op h'.op⟩
def aOp (o : XO) (A B : XE) : XE := fun Γ P => A Γ fun x => B Γ fun y => o x y P
theorem two_imp {r : R2} {o : XO} {ta tb : TE} (hr : ∀ x y H Q, gO c o x y H Q → r x y H Q) (ha : ∀ σ H Q, gE c A σ H Q → ta σ H Q) (hb : ∀ σ H Q, gE c B σ H Q → tb σ H Q) (σ : L2.St) (H : Hp) (Q : VK) (h : gE c (aOp o A B) σ H Q) : tOp r ta tb σ H Q := by
  obtain ⟨Γ, P, at_, p, k⟩ := h
  refine ha _ _ _ ⟨Γ, _, at_, p, fun v H1 rx f1 at1 r1 p1 => ?_⟩
  refine hb _ _ _ ⟨Γ, _, at1, p1, fun u H2 ry f2 at2 r2 p2 => ?_⟩
  refine hr _ _ _ _ ⟨rx, ry, P, ⟨_, _, at2⟩, (r1.mono f2).ro, r2.ro, p2, fun z H3 r f3 r3 p3 => ?_⟩
  exact k z H3 r ((f1.trans f2).trans f3.nil) (at2.ext f3) (r3.back (f1.trans f2)) p3
theorem ae_op {op : Operator} {o : XO} (ho : OpA X c (binaryOp op) o) (ha : PEa X c a A) (hb : PEa X c b B) : PEa X c (.BinOp a op b pos) (aOp o A B) :=
  ⟨pe_imp (pe_op ho.op ha.pe hb.pe) (two_imp (fun _ _ _ _ h => h) (fun _ _ _ h => h) (fun _ _ _ h => h))⟩
theorem ae_cmp {op : CmpOp} {o : XO} (ho : OpA X c (compareOp op) o) (ha : PEa X c a A) (hb : PEa X c b B) (hm : behindInMarks op b = false := by first | exact nomark _ | rfl | with_unfolding_all rfl) : PEa X c (.Compare a [op] [b] pos) (aOp o A B) :=
  ⟨pe_imp (pe_cmpR ho.op ha.pe hb.pe hm) (two_imp (fun _ _ _ _ h => h) (fun _ _ _ h => h) (fun _ _ _ h => h))⟩
/-- a value that is True or False, as a test -/
def aTst (A : XE) : XT := fun Γ P => A Γ fun r => ∃ b, r = .dat (.bool b) ∧ P b
theorem tst_imp {t : TE} (ha : ∀ σ H Q, gE c A σ H Q → t σ H Q) (σ : L2.St) (H : Hp) (Q : Bool → Hp → Prop) (h : gT c (aTst A) σ H Q) : tTest t σ H Q := by
  obtain ⟨Γ, P, at_, p, k⟩ := h
  refine ha _ _ _ ⟨Γ, _, at_, p, fun v H1 rx f1 at1 r1 p1 => ?_⟩
  obtain ⟨b, rfl, q⟩ := p1
  exact ⟨b, r1.ro.bl, k b H1 f1 at1 q⟩
theorem at_cmp {op : CmpOp} {o : XO} (ho : OpA X c (compareOp op) o) (ha : PEa X c a A) (hb : PEa X c b B) (hm : behindInMarks op b = false := by first | exact nomark _ | rfl | with_unfolding_all rfl) : PTa X c (.Compare a [op] [b] pos) (aTst (aOp o A B)) :=
  ⟨pt_imp (pt_cmpR ho.op ha.pe hb.pe hm) (tst_imp (two_imp (fun _ _ _ _ h => h) (fun _ _ _ h => h) (fun _ _ _ h => h)))⟩
/-- a < b < c -/
def aChain (o o' : XO) (A B C : XE) : XE := fun Γ P => A Γ fun x => B Γ fun y => o x y fun z => ∃ k, z = .dat (.bool k) ∧ if k = true then C Γ fun w => o' y w P else P (.dat (.bool false))
theorem chain_imp {r r' : R2} {o o' : XO} {C : XE} {ta tb tc : TE} (hr : ∀ x y H Q, gO c o x y H Q → r x y H Q) (hr' : ∀ x y H Q, gO c o' x y H Q → r' x y H Q) (ha : ∀ σ H Q, gE c A σ H Q → ta σ H Q) (hb : ∀ σ H Q, gE c B σ H Q → tb σ H Q) (hc : ∀ σ H Q, gE c C σ H Q → tc σ H Q)
    (σ : L2.St) (H : Hp) (Q : VK) (h : gE c (aChain o o' A B C) σ H Q) : tChain r r' ta tb tc σ H Q := by
  obtain ⟨Γ, P, at_, p, k⟩ := h
  refine ha _ _ _ ⟨Γ, _, at_, p, fun v H1 rx f1 at1 r1 p1 => ?_⟩
  refine hb _ _ _ ⟨Γ, _, at1, p1, fun u H2 ry f2 at2 r2 p2 => ?_⟩
  refine hr _ _ _ _ ⟨rx, ry, _, ⟨_, _, at2⟩, (r1.mono f2).ro, r2.ro, p2, fun z H3 rz f3 r3 p3 => ?_⟩
  obtain ⟨b, rfl, q⟩ := p3
  have at3 := at2.ext f3
  have f123 := (f1.trans f2).trans (f3.nil (S := c.S))
  refine ⟨b, r3.ro.bl, ?_⟩
  cases b with
  | false =>
    rw [if_neg Bool.false_ne_true] at q ⊢
    exact k _ H3 _ f123 at3 (rr_bl false) q
  | true =>
    rw [if_pos rfl] at q ⊢
    refine hc _ _ _ ⟨Γ, _, at3, q, fun w H4 rw_ f4 at4 r4 p4 => ?_⟩
    refine hr' _ _ _ _ ⟨ry, rw_, P, ⟨_, _, at4⟩, (r2.ro.mono f3.nil).mono f4, r4.ro, p4, fun z5 H5 r5 f5 rr5 p5 => ?_⟩
    exact k z5 H5 r5 ((f123.trans f4).trans f5.nil) (at4.ext f5) (rr5.back (f123.trans f4)) p5
theorem ae_chain {op op' : CmpOp} {o o' : XO} {c3 : Expr} {C : XE} (ho : OpA X c (compareOp op) o) (ho' : OpA X c (compareOp op') o') (ha : PEa X c a A) (hb : PEa X c b B) (hc : PEa X c c3 C) (hm : lastMarks [op, op'] [b, c3] = false := by with_unfolding_all rfl) :
    PEa X c (.Compare a [op, op'] [b, c3] pos) (aChain o o' A B C) :=
  ⟨pe_imp (pe_chain ho.op ho'.op ha.pe hb.pe hc.pe hm) (chain_imp (fun _ _ _ _ h => h) (fun _ _ _ _ h => h) (fun _ _ _ h => h) (fun _ _ _ h => h) (fun _ _ _ h => h))⟩
theorem at_chain {op op' : CmpOp} {o o' : XO} {c3 : Expr} {C : XE} (ho : OpA X c (compareOp op) o) (ho' : OpA X c (compareOp op') o') (ha : PEa X c a A) (hb : PEa X c b B) (hc : PEa X c c3 C) (hm : lastMarks [op, op'] [b, c3] = false := by with_unfolding_all rfl) :
    PTa X c (.Compare a [op, op'] [b, c3] pos) (aTst (aChain o o' A B C)) :=
  ⟨pt_imp (pt_chain ho.op ho'.op ha.pe hb.pe hc.pe hm) (tst_imp (chain_imp (fun _ _ _ _ h => h) (fun _ _ _ _ h => h) (fun _ _ _ h => h) (fun _ _ _ h => h) (fun _ _ _ h => h)))⟩

/-- an operator of two ints -/
def oI (C : Int → Int → Prop) (g : Int → Int → PyData) : XO := fun x y P => ∃ i j, x = .dat (.int i) ∧ y = .dat (.int j) ∧ C i j ∧ P (.dat (g i j))
theorem opI_a {f : Value → Value → Sem Value} {C : Int → Int → Prop} {g : Int → Int → Int} (h : OpR X f (rI C fun i j => .int (g i j))) : OpA X c f (oI C fun i j => .int (g i j)) := ⟨opR_imp h fun x y H Q ⟨rx, ry, P, _, r1, r2, ⟨i, j, e1, e2, hc, p⟩, k⟩ => by
  subst e1 e2
  exact ⟨i, j, r1.int, r2.int, hc, k _ H _ (Fx.refl H) (rr_int _) p⟩⟩
theorem opI0_a {f : Value → Value → Sem Value} {g : Int → Int → Int} (h : OpR X f (rI0 fun i j => .int (g i j))) : OpA X c f (oI (fun _ _ => True) fun i j => .int (g i j)) := ⟨opR_imp h fun x y H Q ⟨rx, ry, P, _, r1, r2, ⟨i, j, e1, e2, hc, p⟩, k⟩ => by
  subst e1 e2
  exact ⟨i, j, r1.int, r2.int, k _ H _ (Fx.refl H) (rr_int _) p⟩⟩
theorem opB0_a {f : Value → Value → Sem Value} {g : Int → Int → Bool} (h : OpR X f (rI0 fun i j => .bl (g i j))) : OpA X c f (oI (fun _ _ => True) fun i j => .bool (g i j)) := ⟨opR_imp h fun x y H Q ⟨rx, ry, P, _, r1, r2, ⟨i, j, e1, e2, hc, p⟩, k⟩ => by
  subst e1 e2
  exact ⟨i, j, r1.int, r2.int, k _ H _ (Fx.refl H) (rr_bl _) p⟩⟩
/-- texts -/
def oStrCat : XO := fun x y P => ∃ i j, x = .dat (.str i) ∧ y = .dat (.str j) ∧ i.length + j.length ≤ sizeLine ∧ P (.dat (.str (i ++ j)))
theorem oa_strcat : OpA X c (binaryOp .Add) oStrCat := ⟨opR_imp op_add_str fun x y H Q ⟨rx, ry, P, _, r1, r2, ⟨i, j, e1, e2, hc, p⟩, k⟩ => by
  subst e1 e2
  exact ⟨i, j, r1.str, r2.str, hc, k _ H _ (Fx.refl H) (rr_str _) p⟩⟩
/-- tuples -/
def oTupCat : XO := fun x y P => ∃ xs ys, x = .dat (.tuple xs) ∧ y = .dat (.tuple ys) ∧ xs.length + ys.length ≤ sizeLine ∧ P (.dat (.tuple (xs ++ ys)))
theorem oa_tupcat (hK : X.K = c.K := by rfl) : OpA X c (binaryOp .Add) oTupCat := ⟨opR_imp op_catA fun x y H Q ⟨rx, ry, P, _, r1, r2, ⟨xs, ys, e1, e2, hc, p⟩, k⟩ => by
  subst e1 e2
  obtain ⟨a, vs, rfl, t1, d1, i1⟩ := r1.tup
  obtain ⟨b, ws, rfl, t2, d2, i2⟩ := r2.tup
  have l1 := dpAll_length d1
  have l2 := dpAll_length d2
  rw [hK]
  refine ⟨a, b, vs, ws, rfl, rfl, t1, t2, by omega, fun e => ?_, fun e e' => ?_, fun e e' q hq => ?_⟩
  · subst e
    cases d1
    exact k _ H _ (Fx.refl H) (rr_dat r2.dat) p
  · subst e'
    cases d2
    rw [List.append_nil] at p
    exact k _ H _ (Fx.refl H) (rr_dat r1.dat) p
  · have f : Fx [] H (upd H q (.tup (vs ++ ws))) := Fx.new hq
    exact k _ _ _ f (rr_tup upd_same (dpAll_append (dpAll_mono f.tup _ _ i1 d1) (dpAll_mono f.tup _ _ i2 d2)) (by simp [immAll_append, i1, i2])) p⟩
/-- lists -/
def oLstCat : XO := fun x y P => ∃ xs ys, x.lst? = some xs ∧ y.lst? = some ys ∧ (∃ z, x = .new z) ∧ (∃ z, y = .new z) ∧ xs.length + ys.length ≤ sizeLine ∧ P (.new (xs ++ ys))
theorem oa_lstcat : OpA X c (binaryOp .Add) oLstCat := ⟨opR_imp op_cat fun x y H Q ⟨rx, ry, P, ⟨σ, Γ, at_⟩, r1, r2, ⟨xs, ys, e1, e2, ⟨z1, e3⟩, ⟨z2, e4⟩, hc, p⟩, k⟩ => by
  subst e3 e4
  cases e1
  cases e2
  obtain ⟨_, a, vs, rfl, _, s1, h1, d1, i1⟩ := r1
  obtain ⟨_, b, ws, rfl, _, s2, h2, d2, i2⟩ := r2
  have l1 := dpAll_length d1
  have l2 := dpAll_length d2
  refine ⟨a, b, vs, ws, rfl, rfl, h1, h2, by omega, fun q hq => ?_⟩
  have f : Fx [] H (upd H q (.lst (vs ++ ws))) := Fx.new hq
  exact k _ _ _ f (rr_new hq (at_.fresh hq).1 upd_same (dpAll_append (dpAll_mono f.tup _ _ i1 d1) (dpAll_mono f.tup _ _ i2 d2)) (by simp [immAll_append, i1, i2])) p⟩
def oAdd : XO := fun x y P => oI (fun _ _ => True) (fun i j => .int (i + j)) x y P ∨ oStrCat x y P ∨ oTupCat x y P ∨ oLstCat x y P
theorem oa_add (hK : X.K = c.K := by rfl) : OpA X c (binaryOp .Add) oAdd := (opI0_a op_add).or (oa_strcat.or ((oa_tupcat hK).or oa_lstcat))
theorem oa_sub : OpA X c (binaryOp .Sub) (oI (fun _ _ => True) fun i j => .int (i - j)) := opI0_a op_sub
theorem oa_mod : OpA X c (binaryOp .Mod) (oI (fun _ j => j ≠ 0) fun i j => .int (i.fmod j)) := opI_a op_modN
theorem oa_fdiv : OpA X c (binaryOp .FloorDiv) (oI CDivN fun i j => .int (i.fdiv j)) := opI_a op_fdivN
theorem oa_pow : OpA X c (binaryOp .Pow) (oI CPow fun i j => .int (i ^ j.toNat)) := opI_a op_pow
theorem oa_lt : OpA X c (compareOp .Lt) (oI (fun _ _ => True) fun i j => .bool (decide (i < j))) := opB0_a op_lt
theorem oa_le : OpA X c (compareOp .LtE) (oI (fun _ _ => True) fun i j => .bool (decide (i ≤ j))) := opB0_a op_le
theorem oa_gt : OpA X c (compareOp .Gt) (oI (fun _ _ => True) fun i j => .bool (decide (j < i))) := opB0_a op_gt
theorem oa_ge : OpA X c (compareOp .GtE) (oI (fun _ _ => True) fun i j => .bool (decide (j ≤ i))) := opB0_a op_ge
/-- == over data -/
def oEq : XO := fun x y P => ∃ d e, x.dt? = some d ∧ y.dt? = some e ∧ SeqAt.shaped d = true ∧ SeqAt.shaped e = true ∧ P (.dat (.bool (PyData.eqv d e)))
def oNe : XO := fun x y P => ∃ d e, x.dt? = some d ∧ y.dt? = some e ∧ SeqAt.shaped d = true ∧ SeqAt.shaped e = true ∧ P (.dat (.bool (!PyData.eqv d e)))
theorem oa_eq (hu : X.A.units + 64 < cLine) (hK : X.K = c.K := by rfl) : OpA X c (compareOp .Eq) oEq := ⟨opR_imp (op_eqD hu) fun x y H Q ⟨rx, ry, P, _, r1, r2, ⟨d, e, e1, e2, s1, s2, p⟩, k⟩ => by
  rw [hK]
  exact ⟨d, e, r1.dt e1, r2.dt e2, s1, s2, k _ H _ (Fx.refl H) (rr_bl _) p⟩⟩
theorem oa_ne (hu : X.A.units + 64 < cLine) (hK : X.K = c.K := by rfl) : OpA X c (compareOp .NotEq) oNe := ⟨opR_imp (op_neD hu) fun x y H Q ⟨rx, ry, P, _, r1, r2, ⟨d, e, e1, e2, s1, s2, p⟩, k⟩ => by
  rw [hK]
  exact ⟨d, e, r1.dt e1, r2.dt e2, s1, s2, k _ H _ (Fx.refl H) (rr_bl _) p⟩⟩
/-- is, is not: of None, of bools -/
def isNone : PyData → Bool
  | .none => true
  | _ => false
def oIs : XO := fun x y P => (∃ d, x = .dat d ∧ y = .dat .none ∧ P (.dat (.bool (isNone d)))) ∨ ∃ i j, x = .dat (.bool i) ∧ y = .dat (.bool j) ∧ P (.dat (.bool (decide (i = j))))
def oIsn : XO := fun x y P => (∃ d, x = .dat d ∧ y = .dat .none ∧ P (.dat (.bool (!isNone d)))) ∨ ∃ i j, x = .dat (.bool i) ∧ y = .dat (.bool j) ∧ P (.dat (.bool (!decide (i = j))))
theorem isNone_of {H : Hp} {v : V} {d : PyData} (h : Dp c.K H v d) : decide (v = .non) = isNone d := by
  cases h <;> rfl
theorem oa_is : OpA X c (compareOp .Is) oIs := ⟨opR_imp (opR_or op_isN op_isBl) fun x y H Q ⟨rx, ry, P, _, r1, r2, o, k⟩ => by
  rcases o with ⟨d, e1, e2, p⟩ | ⟨i, j, e1, e2, p⟩
  · subst e1 e2
    refine .inl ⟨r2.non, ?_⟩
    rw [isNone_of r1.dat.1]
    exact k _ H _ (Fx.refl H) (rr_bl _) p
  · subst e1 e2
    exact .inr ⟨i, j, r1.bl, r2.bl, k _ H _ (Fx.refl H) (rr_bl _) p⟩⟩
theorem oa_isn : OpA X c (compareOp .IsNot) oIsn := ⟨opR_imp (opR_or op_notN op_notBl) fun x y H Q ⟨rx, ry, P, _, r1, r2, o, k⟩ => by
  rcases o with ⟨d, e1, e2, p⟩ | ⟨i, j, e1, e2, p⟩
  · subst e1 e2
    refine .inl ⟨r2.non, ?_⟩
    rw [isNone_of r1.dat.1]
    exact k _ H _ (Fx.refl H) (rr_bl _) p
  · subst e1 e2
    exact .inr ⟨i, j, r1.bl, r2.bl, k _ H _ (Fx.refl H) (rr_bl _) p⟩⟩
end
end Ab

namespace Ab
open PySem PySem.Spec PyProof.Rows L2

/-! ### tuple * int where nothing is copied -/
theorem tuple_mul_same (l : Addr) (items : Array Value) (n : Nat) (dd : Option Addr) (sl : Array (Option Value)) (x : Int) (u : Tok) (c0 : (decide (x < -(2 ^ 63)) || decide (x ≥ 2 ^ 63)) = false) (c1 : (items.isEmpty || x == 1) = true) :
    Meets (Builtin.«tuple.__mul__» ⟨[.ref l, .int x u], []⟩) (fun _ R s => s.heap.get? l = some { cls := .type "tuple", dict := dd, data := .seq items n, slots := sl } ∧ R (.ok (.ret (Value.ref l))) s) :=
  .of_wp fun prog w A R s h => by
    obtain ⟨hp, g, d, tk, os⟩ := s
    obtain ⟨hl, h⟩ := h
    have f1 := AutoSeq1.idx_int
    wp_walk using wpAny_loadPart' hl
    repeat (first
      | (refine wpAny_ite_false (decide_eq_false (by rw [c0]; exact Bool.false_ne_true)) ?_; wp_walk using wpAny_loadPart' hl)
      | (refine wpAny_ite_true (decide_eq_true c1) ?_; wp_walk using wpAny_loadPart' hl))
    exact ⟨_, rfl, h⟩
theorem tuple_mul_none (l : Addr) (items : Array Value) (n : Nat) (dd : Option Addr) (sl : Array (Option Value)) (x : Int) (u : Tok) (c0 : (decide (x < -(2 ^ 63)) || decide (x ≥ 2 ^ 63)) = false) (c1 : (items.isEmpty || x == 1) = false) (c2 : (decide (x ≤ 0) || items.isEmpty) = true) :
    Meets (Builtin.«tuple.__mul__» ⟨[.ref l, .int x u], []⟩) (fun _ R s => s.heap.get? l = some { cls := .type "tuple", dict := dd, data := .seq items n, slots := sl } ∧
      R (.ok (.ret (Value.ref s.heap.objs.size))) { s with heap := s.heap.push { cls := Value.type "tuple", data := Data.seq #[] }, toks := s.toks }) :=
  .of_wp fun prog w A R s h => by
    obtain ⟨hp, g, d, tk, os⟩ := s
    obtain ⟨hl, h⟩ := h
    have f1 := AutoSeq1.idx_int
    wp_walk using wpAny_loadPart' hl
    repeat (first
      | (refine wpAny_ite_false (decide_eq_false (by rw [c0]; exact Bool.false_ne_true)) ?_; wp_walk using wpAny_loadPart' hl)
      | (refine wpAny_ite_false (decide_eq_false (by rw [c1]; exact Bool.false_ne_true)) ?_; wp_walk using wpAny_loadPart' hl)
      | (refine wpAny_ite_true (decide_eq_true c2) ?_; wp_walk using wpAny_loadPart' hl))
    exact ⟨_, rfl, h⟩
section
variable {X : Cx}
def rRepS (K : PySem.W.Frag) : R2 := fun x y H Q => ∃ l k xs, x = .ref l ∧ y = .int k ∧ SqT K H l xs ∧ (xs = [] ∨ k = 1) ∧ -(2 ^ 63) ≤ k ∧ k < 2 ^ 63 ∧ Q (.ref l) H
def rRepN (K : PySem.W.Frag) : R2 := fun x y H Q => ∃ l k xs, x = .ref l ∧ y = .int k ∧ SqT K H l xs ∧ xs ≠ [] ∧ k ≤ 0 ∧ -(2 ^ 63) ≤ k ∧ ∀ p, H p = none → Q (.ref p) (upd H p (.tup []))
theorem op_repS : OpR X (binaryOp .Mult) (rRepS X.K) := by
  intro pins s σ H x y v u Q I rx ry h
  obtain ⟨l, k, xs, rfl, rfl, hT, hor, h1, h2, q⟩ := h
  cases rx
  obtain ⟨t, rfl⟩ := ry
  obtain ⟨its, r, ⟨⟨cls, dd, data, sl⟩, ho, hc, n, hd⟩, hs⟩ := I.tuple hT
  simp only at hc hd
  subst hc hd
  have c0 : (decide (k < -(2 ^ 63)) || decide (k ≥ 2 ^ 63)) = false := by
    rw [decide_eq_false (by omega), decide_eq_false (by omega)] <;> rfl
  have c1 : (its.toArray.isEmpty || k == 1) = true := by
    rcases hor with e | e
    · subst e
      cases r
      rfl
    · subst e
      simp
  refine wpAny_binaryOp_repeat_ref (T := "tuple") (U := "int") (by decide) ⟨_, ho, rfl⟩ (fun s' => typeIs_int s' k t) noFill_tuple_mul F.fills_int_mul F.slot_int_rmul repeat_tuple F.slot_int_index.lookup
    (call_meets F.slot_int_rmul (typeIs_int s k t) F.entry_int_rmul (F.args_int_rmul_2 _ _) (int_rmul_tuple k t l its.toArray n dd sl)
      ⟨ho, rfl, ⟨_, ho, rfl⟩, call_meets F.slot_tuple_mul ⟨_, ho, rfl⟩ F.entry_tuple_mul (F.args_tuple_mul_2 _ _) (tuple_mul_same l its.toArray n dd sl k t c0 c1) ⟨ho, ?_⟩⟩)
  exact ⟨.ref l, H, I, rfl, q⟩
theorem op_repN : OpR X (binaryOp .Mult) (rRepN X.K) := by
  intro pins s σ H x y v u Q I rx ry h
  obtain ⟨l, k, xs, rfl, rfl, hT, hne, h1, h2, q⟩ := h
  cases rx
  obtain ⟨t, rfl⟩ := ry
  obtain ⟨its, r, ⟨⟨cls, dd, data, sl⟩, ho, hc, n, hd⟩, hs⟩ := I.tuple hT
  simp only at hc hd
  subst hc hd
  have hi : its.toArray.isEmpty = false := by
    cases r with
    | nil => exact absurd rfl hne
    | cons a b => rfl
  have c0 : (decide (k < -(2 ^ 63)) || decide (k ≥ 2 ^ 63)) = false := by
    rw [decide_eq_false (by omega), decide_eq_false (by omega)] <;> rfl
  have c1 : (its.toArray.isEmpty || k == 1) = false := by
    rw [hi, Bool.false_or]
    exact beq_eq_false_iff_ne.mpr (by omega)
  have c2 : (decide (k ≤ 0) || its.toArray.isEmpty) = true := by
    rw [decide_eq_true (by omega)]; rfl
  refine wpAny_binaryOp_repeat_ref (T := "tuple") (U := "int") (by decide) ⟨_, ho, rfl⟩ (fun s' => typeIs_int s' k t) noFill_tuple_mul F.fills_int_mul F.slot_int_rmul repeat_tuple F.slot_int_index.lookup
    (call_meets F.slot_int_rmul (typeIs_int s k t) F.entry_int_rmul (F.args_int_rmul_2 _ _) (int_rmul_tuple k t l its.toArray n dd sl)
      ⟨ho, rfl, ⟨_, ho, rfl⟩, call_meets F.slot_tuple_mul ⟨_, ho, rfl⟩ F.entry_tuple_mul (F.args_tuple_mul_2 _ _) (tuple_mul_none l its.toArray n dd sl k t c0 c1 c2) ⟨ho, ?_⟩⟩)
  refine ⟨.ref s.heap.objs.size, _, I.laid (t' := s.toks) (o := .tup []) (fun b ob q => Heap.get?_push_of_some _ q) (Nat.le_refl _) ?_, rfl, q _ (I.hok.fresh (Nat.le_refl _))⟩
  exact ⟨Nat.zero_le _, _, .nil, IsTup.new _ _⟩
end

section
variable {X : Cx} {c : Ctx} {e a b : Expr} {A B : XE} {pos : Pos}
/-- k copies of a row -/
def reps {α : Type} (k : Int) (xs : List α) : List α := (List.replicate k.toNat xs).flatten
theorem dpAll_reps {K : PySem.W.Frag} {H : Hp} {vs : List V} {ds : List PyData} (h : DpAll K H vs ds) : ∀ n : Nat, DpAll K H (List.replicate n vs).flatten (List.replicate n ds).flatten
  | 0 => .nil
  | n + 1 => by
    rw [List.replicate_succ, List.flatten_cons, List.replicate_succ, List.flatten_cons]
    exact dpAll_append h (dpAll_reps h n)
theorem immAll_reps {ds : List PyData} (h : immAll ds = true) : ∀ n : Nat, immAll (List.replicate n ds).flatten = true
  | 0 => rfl
  | n + 1 => by
    rw [List.replicate_succ, List.flatten_cons, immAll_append, h, immAll_reps h n]
    rfl
def oTupRep : XO := fun x y P => ∃ xs k, x = .dat (.tuple xs) ∧ y = .dat (.int k) ∧ -1000 ≤ k ∧ k ≤ 1000 ∧ xs.length ≤ 1000 ∧ P (.dat (.tuple (reps k xs)))
theorem oa_tuprep (hK : X.K = c.K := by rfl) : OpA X c (binaryOp .Mult) oTupRep := ⟨opR_imp (opR_or op_repT (opR_or op_repS op_repN)) fun x y H Q ⟨rx, ry, P, _, r1, r2, ⟨xs, j, e1, e2, h1, h2, h3, p⟩, k⟩ => by
  subst e1 e2
  obtain ⟨l, vs, rfl, t1, d1, i1⟩ := r1.tup
  have e := r2.int
  subst e
  have l1 := dpAll_length d1
  rw [hK]
  by_cases c1 : xs = [] ∨ j = 1
  · refine .inr (.inl ⟨l, j, vs, rfl, rfl, t1, ?_, by omega, by omega, ?_⟩)
    · rcases c1 with c1 | c1
      · subst c1; cases d1; exact .inl rfl
      · exact .inr c1
    · have e2 : reps j xs = xs := by
        rcases c1 with c1 | c1
        · subst c1
          unfold reps
          simp
        · subst c1
          unfold reps
          simp
      rw [e2] at p
      exact k _ H _ (Fx.refl H) (rr_dat r1.dat) p
  · have n1 : xs ≠ [] := fun z => c1 (.inl z)
    have n2 : j ≠ 1 := fun z => c1 (.inr z)
    have n3 : vs ≠ [] := fun z => by
      subst z
      cases d1
      exact n1 rfl
    by_cases c2 : j ≤ 0
    · refine .inr (.inr ⟨l, j, vs, rfl, rfl, t1, n3, c2, by omega, fun q hq => ?_⟩)
      have f : Fx [] H (upd H q (.tup [])) := Fx.new hq
      have e2 : reps j xs = [] := by
        unfold reps
        rw [show j.toNat = 0 by omega]
        rfl
      rw [e2] at p
      exact k _ _ _ f (rr_tup upd_same .nil rfl) p
    · refine .inl ⟨l, j, vs, rfl, rfl, t1, n3, by omega, h2, by omega, fun q hq => ?_⟩
      have f : Fx [] H (upd H q (.tup (List.replicate j.toNat vs).flatten)) := Fx.new hq
      exact k _ _ _ f (rr_tup upd_same (dpAll_reps (dpAll_mono f.tup _ _ i1 d1) _) (immAll_reps i1 _)) p⟩
def oLstRep : XO := fun x y P => ∃ xs k, x = .new xs ∧ y = .dat (.int k) ∧ -(2 ^ 63) ≤ k ∧ k < 2 ^ 63 ∧ xs.length * k.toNat ≤ sizeLine ∧ P (.new (reps k xs))
theorem oa_lstrep : OpA X c (binaryOp .Mult) oLstRep := ⟨opR_imp op_rep fun x y H Q ⟨rx, ry, P, ⟨σ, Γ, at_⟩, r1, r2, ⟨xs, j, e1, e2, h1, h2, h3, p⟩, k⟩ => by
  subst e1 e2
  obtain ⟨_, l, vs, rfl, _, s1, t1, d1, i1⟩ := r1
  have e := r2.int
  subst e
  have l1 := dpAll_length d1
  refine ⟨l, j, vs, rfl, rfl, t1, h1, h2, by rw [l1]; exact h3, fun q hq => ?_⟩
  have f : Fx [] H (upd H q (.lst (List.replicate j.toNat vs).flatten)) := Fx.new hq
  exact k _ _ _ f (rr_new hq (at_.fresh hq).1 upd_same (dpAll_reps (dpAll_mono f.tup _ _ i1 d1) _) (immAll_reps i1 _)) p⟩
def oMul : XO := fun x y P => oI CMul (fun i j => .int (i * j)) x y P ∨ oTupRep x y P ∨ oLstRep x y P
theorem oa_mul (hK : X.K = c.K := by rfl) : OpA X c (binaryOp .Mult) oMul := (opI_a op_mul).or ((oa_tuprep hK).or oa_lstrep)

/-! unary -/
abbrev XU := RV → (RV → Prop) → Prop
def aNeg (A : XE) : XE := fun Γ P => A Γ fun x => ∃ i, x = .dat (.int i) ∧ P (.dat (.int (-i)))
theorem ae_neg (hr : UnR X (unaryOp .USub) (rU fun i => .int (-i)) := by exact un_neg) (ha : PEa X c a A) : PEa X c (.UnaryOp .USub a pos) (aNeg A) := ⟨pe_imp (pe_un hr ha.pe) fun σ H Q ⟨Γ, P, at_, p, k⟩ => by
  refine ⟨Γ, _, at_, p, fun v H1 rx f1 at1 r1 p1 => ?_⟩
  obtain ⟨i, rfl, q⟩ := p1
  exact ⟨i, r1.ro.int, k _ H1 _ f1 at1 (rr_int _) q⟩⟩
/-- not -/
def aNotV (A : XE) : XE := fun Γ P => A Γ fun x => ∃ b, x = .dat (.bool b) ∧ P (.dat (.bool (!b)))
theorem ae_not (ha : PEa X c a A) : PEa X c (.UnaryOp .Not a pos) (aNotV A) := ⟨pe_imp (pe_not ha.pe) fun σ H Q ⟨Γ, P, at_, p, k⟩ => by
  refine ⟨Γ, _, at_, p, fun v H1 rx f1 at1 r1 p1 => ?_⟩
  obtain ⟨i, rfl, q⟩ := p1
  exact ⟨i, r1.ro.bl, k _ H1 _ f1 at1 (rr_bl _) q⟩⟩
/-- and, or as values (all but the last are bools) -/
def aAndV (A B : XE) : XE := fun Γ P => A Γ fun x => ∃ b, x = .dat (.bool b) ∧ if b = true then B Γ P else P (.dat (.bool false))
def aOrV (A B : XE) : XE := fun Γ P => A Γ fun x => ∃ b, x = .dat (.bool b) ∧ if b = true then P (.dat (.bool true)) else B Γ P
theorem ae_one {op} (ha : PEa X c a A) : PEa X c (.BoolOp op [a] pos) A := ⟨pe_one ha.pe⟩
theorem gE_next {H H1 : Hp} {σ : L2.St} {Γ : Gam} {P : RV → Prop} {Q : VK} (f1 : Fx c.S H H1) (at1 : At c σ H1 Γ) (h : B Γ P) (k : ∀ v H' r, Fx c.S H H' → At c σ H' Γ → RR c H H' v r → P r → Q v H') : gE c B σ H1 Q :=
  ⟨Γ, P, at1, h, fun v H2 r f2 at2 r2 p2 => k v H2 r (f1.trans f2) at2 (r2.back f1) p2⟩
theorem ae_and {rest : List Expr} (ha : PEa X c a A) (hb : PEa X c (.BoolOp .And (b :: rest) pos) B) : PEa X c (.BoolOp .And (a :: b :: rest) pos) (aAndV A B) := ⟨pe_imp (pe_and ha.pe hb.pe) fun σ H Q ⟨Γ, P, at_, p, k⟩ => by
  refine ⟨Γ, _, at_, p, fun v H1 rx f1 at1 r1 p1 => ?_⟩
  obtain ⟨i, rfl, q⟩ := p1
  refine ⟨i, r1.ro.bl, ?_⟩
  cases i with
  | false =>
    rw [if_neg Bool.false_ne_true] at q ⊢
    exact k _ H1 _ f1 at1 (rr_bl _) q
  | true =>
    rw [if_pos rfl] at q ⊢
    exact gE_next f1 at1 q k⟩
theorem ae_or {rest : List Expr} (ha : PEa X c a A) (hb : PEa X c (.BoolOp .Or (b :: rest) pos) B) : PEa X c (.BoolOp .Or (a :: b :: rest) pos) (aOrV A B) := ⟨pe_imp (pe_or ha.pe hb.pe) fun σ H Q ⟨Γ, P, at_, p, k⟩ => by
  refine ⟨Γ, _, at_, p, fun v H1 rx f1 at1 r1 p1 => ?_⟩
  obtain ⟨i, rfl, q⟩ := p1
  refine ⟨i, r1.ro.bl, ?_⟩
  cases i with
  | true =>
    rw [if_pos rfl] at q ⊢
    exact k _ H1 _ f1 at1 (rr_bl _) q
  | false =>
    rw [if_neg Bool.false_ne_true] at q ⊢
    exact gE_next f1 at1 q k⟩

/-! tests -/
def tAndA (A B : XT) : XT := fun Γ P => A Γ fun b => if b = true then B Γ P else P false
def tOrA (A B : XT) : XT := fun Γ P => A Γ fun b => if b = true then P true else B Γ P
def tNotA (A : XT) : XT := fun Γ P => A Γ fun b => P (!b)
variable {T U : XT}
theorem gT_next {H H1 : Hp} {σ : L2.St} {Γ : Gam} {P : Bool → Prop} {Q : Bool → Hp → Prop} (f1 : Fx c.S H H1) (at1 : At c σ H1 Γ) (h : U Γ P) (k : ∀ b H', Fx c.S H H' → At c σ H' Γ → P b → Q b H') : gT c U σ H1 Q :=
  ⟨Γ, P, at1, h, fun b H2 f2 at2 p2 => k b H2 (f1.trans f2) at2 p2⟩
theorem PWa.t (h : PWa X c e T) : PTa X c e T := ⟨h.pw.pt⟩
theorem aw_and1 (ha : PTa X c a T) : PWa X c (.BoolOp .And [a] pos) T := ⟨pw_and1 ha.pt⟩
theorem aw_or1 (ha : PTa X c a T) : PWa X c (.BoolOp .Or [a] pos) T := ⟨pw_or1 ha.pt⟩
theorem aw_and {rest : List Expr} (ha : PTa X c a T) (hb : PWa X c (.BoolOp .And (b :: rest) pos) U) : PWa X c (.BoolOp .And (a :: b :: rest) pos) (tAndA T U) := ⟨pw_imp (pw_and ha.pt hb.pw) fun σ H Q ⟨Γ, P, at_, p, k⟩ => by
  refine ⟨Γ, _, at_, p, fun i H1 f1 at1 q => ?_⟩
  cases i with
  | false =>
    rw [if_neg Bool.false_ne_true] at q ⊢
    exact k _ H1 f1 at1 q
  | true =>
    rw [if_pos rfl] at q ⊢
    exact gT_next f1 at1 q k⟩
theorem aw_or {rest : List Expr} (ha : PTa X c a T) (hb : PWa X c (.BoolOp .Or (b :: rest) pos) U) : PWa X c (.BoolOp .Or (a :: b :: rest) pos) (tOrA T U) := ⟨pw_imp (pw_or ha.pt hb.pw) fun σ H Q ⟨Γ, P, at_, p, k⟩ => by
  refine ⟨Γ, _, at_, p, fun i H1 f1 at1 q => ?_⟩
  cases i with
  | true =>
    rw [if_pos rfl] at q ⊢
    exact k _ H1 f1 at1 q
  | false =>
    rw [if_neg Bool.false_ne_true] at q ⊢
    exact gT_next f1 at1 q k⟩
theorem at_not (ha : PTa X c a T) : PTa X c (.UnaryOp .Not a pos) (tNotA T) := ⟨pt_imp (pt_not ha.pt) fun σ H Q ⟨Γ, P, at_, p, k⟩ => ⟨Γ, _, at_, p, fun i H1 f1 at1 q => k _ H1 f1 at1 q⟩⟩
/-- the truth of a value -/
def truth : RV → Option Bool
  | .dat .none => some false
  | .dat (.bool b) => some b
  | .dat (.int i) => some (i != 0)
  | .dat (.str x) => if x.length ≤ sizeLine then some ((x.length : Int) != 0) else none
  | .dat (.tuple xs) => some !xs.isEmpty
  | .new xs => some !xs.isEmpty
  | .vw xs => some !xs.isEmpty
  | .al xs => some !xs.isEmpty
  | _ => none
theorem dpAll_empty {K : PySem.W.Frag} {H : Hp} {vs : List V} {ds : List PyData} (h : DpAll K H vs ds) : vs.isEmpty = ds.isEmpty := by
  cases h <;> rfl
theorem truth_ok {H : Hp} {v : V} {r : RV} {b : Bool} (h : RO c H v r) (e : truth r = some b) : TruV c.K v H b := by
  cases r with
  | dat d =>
    cases d with
    | none => cases h.non; cases e; rfl
    | bool i => cases h.bl; cases e; rfl
    | int i => cases h.int; cases e; rfl
    | str x =>
      cases h.str
      have e2 : (if x.length ≤ sizeLine then some ((x.length : Int) != 0) else none) = some b := e
      by_cases hx : x.length ≤ sizeLine
      · rw [if_pos hx] at e2
        cases e2
        exact ⟨hx, rfl⟩
      · rw [if_neg hx] at e2
        cases e2
    | tuple xs =>
      obtain ⟨a, vs, rfl, t1, d1, i1⟩ := h.tup
      cases e
      exact .inr (.inl ⟨vs, t1, by rw [dpAll_empty d1]⟩)
    | list xs => cases e
    | dict xs => cases e
  | new xs =>
    obtain ⟨a, vs, rfl, _, t1, d1, i1⟩ := h.lst rfl
    cases e
    exact .inl ⟨vs, t1, by rw [dpAll_empty d1]⟩
  | vw xs =>
    obtain ⟨a, vs, rfl, _, t1, d1, i1⟩ := h.lst rfl
    cases e
    exact .inl ⟨vs, t1, by rw [dpAll_empty d1]⟩
  | al xs =>
    obtain ⟨a, vs, rfl, _, t1, d1, i1⟩ := h.lst rfl
    cases e
    exact .inl ⟨vs, t1, by rw [dpAll_empty d1]⟩
  | obj p => cases e
def aTru (A : XE) : XT := fun Γ P => A Γ fun r => ∃ b, truth r = some b ∧ P b
theorem at_tru (ha : PEa X c a A) (he : ∀ whole, isTrue a X.env whole = (do let v ← whole; standAt a.pos; holding [v] (truthy v)) := by intro _; rfl) (hK : X.K = c.K := by rfl) : PTa X c a (aTru A) := ⟨pt_imp (pt_truth ha.pe he) fun σ H Q ⟨Γ, P, at_, p, k⟩ => by
  refine ⟨Γ, _, at_, p, fun v H1 rx f1 at1 r1 ⟨b, e, q⟩ => ?_⟩
  refine ⟨b, ?_, k b H1 f1 at1 q⟩
  rw [hK]
  exact truth_ok r1.ro e⟩
def aIf (T : XT) (A B : XE) : XE := fun Γ P => T Γ fun b => if b = true then A Γ P else B Γ P
theorem ae_if {t : Expr} (ht : PTa X c t T) (ha : PEa X c a A) (hb : PEa X c b B) : PEa X c (.IfExp t a b pos) (aIf T A B) := ⟨pe_imp (pe_ifExp ht.pt ha.pe hb.pe) fun σ H Q ⟨Γ, P, at_, p, k⟩ => by
  refine ⟨Γ, _, at_, p, fun i H1 f1 at1 q => ?_⟩
  cases i with
  | true =>
    rw [if_pos rfl] at q ⊢
    exact gE_next f1 at1 q k
  | false =>
    rw [if_neg Bool.false_ne_true] at q ⊢
    exact gE_next f1 at1 q k⟩

/-! arguments, displays -/
variable {es : List Expr} {L : XA}
def aNil : XA := fun _ P => P []
def aCons (A : XE) (L : XA) : XA := fun Γ P => A Γ fun x => L Γ fun xs => P (x :: xs)
theorem aa_nil : PAa X c [] aNil := ⟨pa_imp pa_nil fun σ H Q ⟨Γ, P, at_, p, k⟩ => k [] H [] (Fx.refl H) at_ .nil p⟩
theorem aa_cons (ha : PEa X c e A) (hl : PAa X c es L) (hs : starEach (e :: es) X.env = (false, eval e X.env) :: starEach es X.env := by rfl) : PAa X c (e :: es) (aCons A L) := ⟨pa_imp (pa_cons ha.pe hl.pa hs) fun σ H Q ⟨Γ, P, at_, p, k⟩ => by
  refine ⟨Γ, _, at_, p, fun v H1 rx f1 at1 r1 p1 => ?_⟩
  refine ⟨Γ, _, at1, p1, fun vs H2 rs f2 at2 r2 p2 => ?_⟩
  exact k _ H2 _ (f1.trans f2) at2 (.cons (r1.mono f2) (r2.back f1)) p2⟩
/-- all data -/
def datas : List RV → Option (List PyData)
  | [] => some []
  | .dat d :: r => (datas r).map (d :: ·)
  | _ :: _ => none
theorem datas_ok {H H' : Hp} : ∀ {vs : List V} {rs : List RV} {ds : List PyData}, RRs c H H' vs rs → datas rs = some ds → DpAll c.K H' vs ds ∧ immAll ds = true
  | _, _, ds, .nil, e => by cases e; exact ⟨.nil, rfl⟩
  | _, _, ds, .cons (b := r) h t, e => by
    cases r with
    | dat d =>
      unfold datas at e
      rw [Option.map_eq_some_iff] at e
      obtain ⟨es, e1, e2⟩ := e
      subst e2
      obtain ⟨h1, h2⟩ := datas_ok t e1
      exact ⟨.cons h.1 h1, by simp [immAll, h.2, h2]⟩
    | new _ => cases e
    | vw _ => cases e
    | al _ => cases e
    | obj _ => cases e
def aTup (L : XA) : XE := fun Γ P => L Γ fun rs => ∃ ds, datas rs = some ds ∧ ds.length ≤ sizeLine ∧ P (.dat (.tuple ds))
theorem ae_tup {x1} (hl : PAa X c es L) : PEa X c (.Tuple es x1 pos) (aTup L) := ⟨pe_imp (pe_tup hl.pa) fun σ H Q ⟨Γ, P, at_, p, k⟩ => by
  refine ⟨Γ, _, at_, p, fun vs H1 rs f1 at1 r1 ⟨ds, e, hz, q⟩ => ?_⟩
  obtain ⟨d1, i1⟩ := datas_ok r1 e
  refine ⟨by rw [dpAll_length d1]; exact hz, fun x hx => ?_⟩
  have f : Fx [] H1 (upd H1 x (.tup vs)) := Fx.new hx
  exact k _ _ _ (f1.trans f.nil) (at1.ext f) (rr_tup upd_same (dpAll_mono f.tup _ _ i1 d1) i1) q⟩
def aLst (L : XA) : XE := fun Γ P => L Γ fun rs => ∃ ds, datas rs = some ds ∧ ds.length ≤ sizeLine ∧ P (.new ds)
theorem ae_lst (hl : PAa X c es L) : PEa X c (.List es pos) (aLst L) := ⟨pe_imp (pe_lst hl.pa) fun σ H Q ⟨Γ, P, at_, p, k⟩ => by
  refine ⟨Γ, _, at_, p, fun vs H1 rs f1 at1 r1 ⟨ds, e, hz, q⟩ => ?_⟩
  obtain ⟨d1, i1⟩ := datas_ok r1 e
  refine ⟨by rw [dpAll_length d1]; exact hz, fun x hx => ?_⟩
  have f : Fx [] H1 (upd H1 x (.lst vs)) := Fx.new hx
  have n := (at1.fresh hx).1
  exact k _ _ _ (f1.trans f.nil) (at1.ext f) (rr_new (f1.free n hx) n upd_same (dpAll_mono f.tup _ _ i1 d1) i1) q⟩
end
end Ab

namespace Ab
open PySem PySem.Spec PyProof.Rows L2

/-! ### calls of the text's defs -/
def RV.arg : RV → RV
  | .new ds => .vw ds
  | .al ds => .vw ds
  | r => r
/-- what a def may hand back -/
def RV.ret : RV → Bool
  | .dat _ => true
  | .new _ => true
  | _ => false
abbrev Asp := List RV → (RV → Prop) → Prop
def cx0 (K : PySem.W.Frag) (S : List Addr) (J : Hp → Prop) (H : Hp) : Ctx := ⟨K, S, J, H⟩
abbrev ArgR (K : PySem.W.Frag) (S : List Addr) (H : Hp) : V → RV → Prop := RR (cx0 K S (fun _ => True) H) H H
/-- a pure def's promise -/
def pSp (K : PySem.W.Frag) (asp : Asp) : Sp := fun vs H Q _ => ∃ rs P, Paired (ArgR K [] H) vs rs ∧ asp rs P ∧ ∀ v H' r, Fx [] H H' → RR (cx0 K [] (fun _ => True) H) H H' v r → r.ret = true → P r → Q v H'
/-- the promise of a def that changes one list of its caller's: its address st, what stands of it J -/
def isRef (st : Addr) : V → Prop := fun v => v = .ref st
def dSp (K : PySem.W.Frag) (T : List Addr) (W : Addr → (Hp → Prop) → Prop) (asp : Addr → Asp) : Sp := fun vs H Q _ => ∃ st J rs P, W st J ∧ J H ∧ Paired (ArgR K (st :: T) H) vs rs ∧ asp st rs P ∧
  ∀ v H' r, Fx (st :: T) H H' → J H' → RR (cx0 K (st :: T) J H) H H' v r → r.ret = true → P r → Q v H'

section
variable {X : Cx} {c : Ctx} {e a b : Expr} {es : List Expr} {A B : XE} {L : XA} {pos p : Pos}
theorem argR_of {K : PySem.W.Frag} {J : Hp → Prop} {H0 H H1 : Hp} {S T : List Addr} {v : V} {r : RV} (h : RR ⟨K, S, J, H0⟩ H H1 v r) (hT : ∀ x ∈ T, x ∈ S) : ArgR K T H1 v r.arg := by
  cases r with
  | dat d => exact h
  | new ds =>
    obtain ⟨x, vs, rfl, h1, h2, h3, h4, h5⟩ := h
    exact ⟨x, vs, rfl, fun z => h2 (hT x z), SqL.of h3, SqL.of h3, h4, h5⟩
  | vw ds =>
    obtain ⟨x, vs, rfl, h2, _, h3, h4, h5⟩ := h
    exact ⟨x, vs, rfl, fun z => h2 (hT x z), h3, h3, h4, h5⟩
  | al ds =>
    obtain ⟨x, vs, rfl, h2, h3, h4, h5⟩ := h
    exact ⟨x, vs, rfl, fun z => h2 (hT x z), h3, h3, h4, h5⟩
  | obj q => exact h
theorem argRs_of {K : PySem.W.Frag} {J : Hp → Prop} {H0 H H1 : Hp} {S T : List Addr} (hT : ∀ x ∈ T, x ∈ S) : ∀ {vs : List V} {rs : List RV}, RRs ⟨K, S, J, H0⟩ H H1 vs rs → Paired (ArgR K T H1) vs (rs.map RV.arg)
  | _, _, .nil => .nil
  | _, _, .cons h t => .cons (argR_of h hT) (argRs_of hT t)
def aCall (asp : Asp) (L : XA) : XE := fun Γ P => L Γ fun rs => asp (rs.map RV.arg) P
theorem call_imp {asp : Asp} {ta : TA} (ha : ∀ σ H Q, gA c L σ H Q → ta σ H Q) (σ : L2.St) (H : Hp) (Q : VK) (E : XK) (h : gE c (aCall asp L) σ H Q) : tCall (pSp c.K asp) [] E ta σ H Q := by
  obtain ⟨Γ, P, at_, p, k⟩ := h
  refine ha _ _ _ ⟨Γ, _, at_, p, fun vs H1 rs f1 at1 r1 q => ?_⟩
  show pSp c.K asp (vs ++ []) H1 Q E
  rw [List.append_nil]
  refine ⟨rs.map RV.arg, P, argRs_of (T := []) (fun _ h => by simp at h) r1, q, fun v H2 r f2 rr hr pr => ?_⟩
  have at2 := at1.ext f2
  refine k v H2 r (f1.trans f2.nil) at2 ?_ pr
  cases r with
  | dat d => exact rr
  | new ds =>
    obtain ⟨x, vs, rfl, h1, h2, h3, h4, h5⟩ := rr
    have n := (at1.fresh h1).1
    exact ⟨x, vs, rfl, f1.free n h1, n, h3, h4, h5⟩
  | vw ds => cases hr
  | al ds => cases hr
  | obj q => cases hr
theorem ae_call {CX : CXT} {asp : Asp} {k : Nat} {f : Addr} {fd : FuncData} {ps : List Str} {x : Str} {E : XK} (F : FnOk X.prog X.w X.K X.mg X.base CX k f fd ps (pSp X.K asp)) (hr : Room k X.A) (hg : Gl X x) (hm : X.mg x = some (.ref f)) (hk : PySem.W.keepIn X.K (.ref f) = true) (hb : Binds X.K fd ps [])
    (hx : Passes CX X E) (ha : PAa X c (e :: es) L) (hdb : (x == ("__debug__" : Str)) = false := by decide) (he : starEach (e :: es) X.env = (false, eval e X.env) :: starEach es X.env := by rfl) (hpl : (backTo pos (starEach es X.env)).any (·.1) = false := by rfl)
    (hK : X.K = c.K := by rfl) : PEa X c (.Call (.Name x p) (e :: es) [] pos) (aCall asp L) :=
  ⟨pe_imp (pe_call F hr hg hm hk hb .nil hx ha.pa hdb he hpl) fun σ H Q h => by
    have := call_imp (asp := asp) (ta := gA c L) (fun _ _ _ h => h) σ H Q E h
    rw [hK]
    exact this⟩
/-- a call that hands on the list st -/
def aCallD (st : Addr) (asp : Addr → Asp) (L : XA) : XE := fun Γ P => L Γ fun rs => asp st (rs.map RV.arg) P
theorem callD_imp {st : Addr} {T : List Addr} {W : Addr → (Hp → Prop) → Prop} {asp : Addr → Asp} {ta : TA} (hS : c.S = st :: T) (hW : W st c.J) (ha : ∀ σ H Q, gA c L σ H Q → ta σ H Q) (σ : L2.St) (H : Hp) (Q : VK) (E : XK) (h : gE c (aCallD st asp L) σ H Q) : tCall (dSp c.K T W asp) [] E ta σ H Q := by
  obtain ⟨Γ, P, at_, p, k⟩ := h
  refine ha _ _ _ ⟨Γ, _, at_, p, fun vs H1 rs f1 at1 r1 q => ?_⟩
  show dSp c.K T W asp (vs ++ []) H1 Q E
  rw [List.append_nil]
  refine ⟨st, c.J, rs.map RV.arg, P, hW, at1.J, argRs_of (T := st :: T) (fun _ h => by rw [hS]; exact h) r1, q, fun v H2 r f2 j2 rr hr pr => ?_⟩
  have f2' : Fx c.S H1 H2 := by rw [hS]; exact f2
  have at2 := at1.grow f2' j2
  refine k v H2 r (f1.trans f2') at2 ?_ pr
  cases r with
  | dat d => exact rr
  | new ds =>
    obtain ⟨x, vs, rfl, h1, h2, h3, h4, h5⟩ := rr
    have n := (at1.fresh h1).1
    exact ⟨x, vs, rfl, f1.free n h1, n, h3, h4, h5⟩
  | vw ds => cases hr
  | al ds => cases hr
  | obj q => cases hr
theorem ae_callD {CX : CXT} {st : Addr} {T : List Addr} {W : Addr → (Hp → Prop) → Prop} {asp : Addr → Asp} {k : Nat} {f : Addr} {fd : FuncData} {ps : List Str} {x : Str} {E : XK} (hS : c.S = st :: T) (hW : W st c.J) (F : FnOk X.prog X.w X.K X.mg X.base CX k f fd ps (dSp X.K T W asp)) (hr : Room k X.A) (hg : Gl X x) (hm : X.mg x = some (.ref f))
    (hk : PySem.W.keepIn X.K (.ref f) = true) (hb : Binds X.K fd ps []) (hx : Passes CX X E) (ha : PAa X c (e :: es) L) (hdb : (x == ("__debug__" : Str)) = false := by decide) (he : starEach (e :: es) X.env = (false, eval e X.env) :: starEach es X.env := by rfl)
    (hpl : (backTo pos (starEach es X.env)).any (·.1) = false := by rfl) (hK : X.K = c.K := by rfl) : PEa X c (.Call (.Name x p) (e :: es) [] pos) (aCallD st asp L) :=
  ⟨pe_imp (pe_call F hr hg hm hk hb .nil hx ha.pa hdb he hpl) fun σ H Q h => by
    have := callD_imp (asp := asp) (ta := gA c L) hS hW (fun _ _ _ h => h) σ H Q E h
    rw [hK]
    exact this⟩

/-! ### built-ins -/
abbrev XC := List RV → (RV → Prop) → Prop
def gC (c : Ctx) (o : XC) : List V → Hp → VK → Prop := fun vs H Q => ∃ rs P, (∃ σ Γ, At c σ H Γ) ∧ Paired (RO c H) vs rs ∧ o rs P ∧ ∀ z H' r, Fx [] H H' → RR c H H' z r → P r → Q z H'
structure CallA (X : Cx) (c : Ctx) (f : Value) (o : XC) : Prop where
  cr : CallR X f (gC c o)
theorem callR_imp {f : Value} {r r' : List V → Hp → VK → Prop} (h : CallR X f r) (w : ∀ x H Q, r' x H Q → r x H Q) : CallR X f r' := fun pins s σ H x us Q I rx q => h pins s σ H x us Q I rx (w _ _ _ q)
theorem callR_or {f : Value} {r r' : List V → Hp → VK → Prop} (h : CallR X f r) (h' : CallR X f r') : CallR X f (fun x H Q => r x H Q ∨ r' x H Q) := fun pins s σ H x us Q I rx q => by
  rcases q with q | q
  · exact h pins s σ H x us Q I rx q
  · exact h' pins s σ H x us Q I rx q
theorem CallA.or {f : Value} {o o' : XC} (h : CallA X c f o) (h' : CallA X c f o') : CallA X c f (fun x P => o x P ∨ o' x P) := ⟨callR_imp (callR_or h.cr h'.cr) fun x H Q ⟨rs, P, a, b, e, k⟩ => by
  rcases e with e | e
  · exact .inl ⟨rs, P, a, b, e, k⟩
  · exact .inr ⟨rs, P, a, b, e, k⟩⟩
theorem RRs.ros {H H1 : Hp} : ∀ {vs : List V} {rs : List RV}, RRs c H H1 vs rs → Paired (RO c H1) vs rs
  | _, _, .nil => .nil
  | _, _, .cons h t => .cons h.ro (RRs.ros t)
def aBlt (o : XC) (L : XA) : XE := fun Γ P => L Γ fun rs => o rs P
theorem blt_imp {o : XC} (σ : L2.St) (H : Hp) (Q : VK) (h : gE c (aBlt o L) σ H Q) : tCB (gC c o) (gA c L) σ H Q := by
  obtain ⟨Γ, P, at_, p, k⟩ := h
  refine ⟨Γ, _, at_, p, fun vs H1 rs f1 at1 r1 q => ?_⟩
  refine ⟨rs, P, ⟨_, _, at1⟩, r1.ros, q, fun z H2 r f2 r2 pr => ?_⟩
  exact k z H2 r (f1.trans f2.nil) (at1.ext f2) (r2.back f1) pr
theorem ae_blt {x : Str} {id : String} {o : XC} (hc : CallA X c (.builtin id) o) (hg : Gl X x) (hm : X.mg x = none) (hv : bootBuiltins x = some (.builtin id)) (ha : PAa X c (e :: es) L) (hn : x ≠ "__name__" := by decide) (hdb : (x == ("__debug__" : Str)) = false := by decide)
    (he : starEach (e :: es) X.env = (false, eval e X.env) :: starEach es X.env := by rfl) (hpl : (backTo pos (starEach es X.env)).any (·.1) = false := by rfl) : PEa X c (.Call (.Name x p) (e :: es) [] pos) (aBlt o L) :=
  ⟨pe_imp (pe_callB hc.cr hg hm hv ha.pa hn hdb he hpl) blt_imp⟩
theorem ae_ty {x : Str} {T : String} {o : XC} (hc : CallA X c (.type T) o) (hg : Gl X x) (hm : X.mg x = none) (hv : bootBuiltins x = some (.type T)) (ha : PAa X c (e :: es) L) (hn : x ≠ "__name__" := by decide) (hdb : (x == ("__debug__" : Str)) = false := by decide)
    (he : starEach (e :: es) X.env = (false, eval e X.env) :: starEach es X.env := by rfl) (hpl : (backTo pos (starEach es X.env)).any (·.1) = false := by rfl) : PEa X c (.Call (.Name x p) (e :: es) [] pos) (aBlt o L) :=
  ⟨pe_imp (pe_callTy hc.cr hg hm hv ha.pa hn hdb he hpl) blt_imp⟩
theorem ros_one {H : Hp} {vs : List V} {r : RV} (h : Paired (RO c H) vs [r]) : ∃ v, vs = [v] ∧ RO c H v r := by
  cases h with
  | cons a t => cases t; exact ⟨_, rfl, a⟩
theorem ros_two {H : Hp} {vs : List V} {r q : RV} (h : Paired (RO c H) vs [r, q]) : ∃ v u, vs = [v, u] ∧ RO c H v r ∧ RO c H u q := by
  cases h with
  | cons a t =>
    obtain ⟨u, rfl, b⟩ := ros_one t
    exact ⟨_, u, rfl, a, b⟩

/-- len -/
def lenOf : RV → Option Nat
  | .dat (.tuple xs) => some xs.length
  | .dat (.str x) => if x.length ≤ sizeLine then some x.length else none
  | .new xs => some xs.length
  | .vw xs => some xs.length
  | .al xs => some xs.length
  | _ => none
theorem lenOf_ok {H : Hp} {v : V} {r : RV} {n : Nat} (h : RO c H v r) (e : lenOf r = some n) : LenV c.K v H n := by
  cases r with
  | dat d =>
    cases d with
    | tuple xs =>
      obtain ⟨a, vs, rfl, t1, d1, i1⟩ := h.tup
      cases e
      exact .inr ⟨vs, t1, (dpAll_length d1).symm⟩
    | str x =>
      cases h.str
      have e2 : (if x.length ≤ sizeLine then some x.length else none) = some n := e
      by_cases hx : x.length ≤ sizeLine
      · rw [if_pos hx] at e2
        cases e2
        exact ⟨hx, rfl⟩
      · rw [if_neg hx] at e2
        cases e2
    | none => cases e
    | bool i => cases e
    | int i => cases e
    | list xs => cases e
    | dict xs => cases e
  | new xs =>
    obtain ⟨a, vs, rfl, _, t1, d1, i1⟩ := h.lst rfl
    cases e
    exact .inl ⟨vs, t1, (dpAll_length d1).symm⟩
  | vw xs =>
    obtain ⟨a, vs, rfl, _, t1, d1, i1⟩ := h.lst rfl
    cases e
    exact .inl ⟨vs, t1, (dpAll_length d1).symm⟩
  | al xs =>
    obtain ⟨a, vs, rfl, _, t1, d1, i1⟩ := h.lst rfl
    cases e
    exact .inl ⟨vs, t1, (dpAll_length d1).symm⟩
  | obj p => cases e
def kLen : XC := fun rs P => ∃ r n, rs = [r] ∧ lenOf r = some n ∧ P (.dat (.int n))
theorem ka_len (hK : X.K = c.K := by rfl) : CallA X c (.builtin "len") kLen := ⟨callR_imp call_len fun vs H Q ⟨rs, P, _, h, ⟨r, n, e, el, p⟩, k⟩ => by
  subst e
  obtain ⟨v, rfl, ro⟩ := ros_one h
  rw [hK]
  exact ⟨v, n, rfl, lenOf_ok ro el, k _ H _ (Fx.refl H) (rr_int _) p⟩⟩
def kAbs : XC := fun rs P => ∃ i, rs = [.dat (.int i)] ∧ P (.dat (.int (if i < 0 then -i else i)))
theorem ka_abs : CallA X c (.builtin "abs") kAbs := ⟨callR_imp call_abs fun vs H Q ⟨rs, P, _, h, ⟨i, e, p⟩, k⟩ => by
  subst e
  obtain ⟨v, rfl, ro⟩ := ros_one h
  cases ro.int
  exact ⟨i, rfl, k _ H _ (Fx.refl H) (rr_int _) p⟩⟩
/-- max, min: of two ints, or of a list of ints -/
def intsOf : List PyData → Option (List Int)
  | [] => some []
  | .int i :: r => (intsOf r).map (i :: ·)
  | _ :: _ => none
theorem intsOf_map (ns : List Int) : intsOf (ns.map .int) = some ns := by
  induction ns with
  | nil => rfl
  | cons n ns ih => rw [List.map_cons, intsOf, ih]; rfl
theorem intsOf_ok {K : PySem.W.Frag} {H : Hp} : ∀ {vs : List V} {ds : List PyData} {ns : List Int}, DpAll K H vs ds → intsOf ds = some ns → vs = ns.map V.int
  | _, _, ns, .nil, e => by cases e; rfl
  | _, _, ns, .cons (d := d) h t, e => by
    cases d with
    | int i =>
      unfold intsOf at e
      rw [Option.map_eq_some_iff] at e
      obtain ⟨ms, e1, e2⟩ := e
      subst e2
      cases h
      rw [intsOf_ok t e1, List.map_cons]
    | none => cases e
    | bool b => cases e
    | str b => cases e
    | tuple b => cases e
    | list b => cases e
    | dict b => cases e
def kMax : XC := fun rs P => (∃ i j, rs = [.dat (.int i), .dat (.int j)] ∧ P (.dat (.int (max i j)))) ∨ ∃ r ds ns, rs = [r] ∧ r.lst? = some ds ∧ intsOf ds = some ns ∧ 0 < ns.length ∧ ∀ m, m ∈ ns → (∀ y, y ∈ ns → y ≤ m) → P (.dat (.int m))
def kMin : XC := fun rs P => (∃ i j, rs = [.dat (.int i), .dat (.int j)] ∧ P (.dat (.int (min i j)))) ∨ ∃ r ds ns, rs = [r] ∧ r.lst? = some ds ∧ intsOf ds = some ns ∧ 0 < ns.length ∧ ∀ m, m ∈ ns → (∀ y, y ∈ ns → m ≤ y) → P (.dat (.int m))
theorem ka_max (hc : X.calm = true) (hK : X.K = c.K := by rfl) : CallA X c (.builtin "max") kMax := ⟨callR_imp (callR_or (call_max2 hc) (cr_max hc)) fun vs H Q ⟨rs, P, _, h, o, k⟩ => by
  rcases o with ⟨i, j, e, p⟩ | ⟨r, ds, ns, e, e1, e2, h0, p⟩
  · subst e
    obtain ⟨v, u, rfl, r1, r2⟩ := ros_two h
    cases r1.int
    cases r2.int
    refine .inl ⟨i, j, rfl, ?_⟩
    rw [show (if j > i then j else i) = max i j by omega]
    exact k _ H _ (Fx.refl H) (rr_int _) p
  · subst e
    obtain ⟨v, rfl, ro⟩ := ros_one h
    obtain ⟨a, vs, rfl, _, t1, d1, i1⟩ := ro.lst e1
    cases intsOf_ok d1 e2
    rw [hK]
    exact .inr ⟨a, ns, rfl, t1, h0, fun m h1 h2 => k _ H _ (Fx.refl H) (rr_int _) (p m h1 h2)⟩⟩
theorem ka_min (hc : X.calm = true) (hK : X.K = c.K := by rfl) : CallA X c (.builtin "min") kMin := ⟨callR_imp (callR_or (call_min2 hc) (cr_min hc)) fun vs H Q ⟨rs, P, _, h, o, k⟩ => by
  rcases o with ⟨i, j, e, p⟩ | ⟨r, ds, ns, e, e1, e2, h0, p⟩
  · subst e
    obtain ⟨v, u, rfl, r1, r2⟩ := ros_two h
    cases r1.int
    cases r2.int
    refine .inl ⟨i, j, rfl, ?_⟩
    rw [show (if j < i then j else i) = min i j by omega]
    exact k _ H _ (Fx.refl H) (rr_int _) p
  · subst e
    obtain ⟨v, rfl, ro⟩ := ros_one h
    obtain ⟨a, vs, rfl, _, t1, d1, i1⟩ := ro.lst e1
    cases intsOf_ok d1 e2
    rw [hK]
    exact .inr ⟨a, ns, rfl, t1, h0, fun m h1 h2 => k _ H _ (Fx.refl H) (rr_int _) (p m h1 h2)⟩⟩
def kInt : XC := fun rs P => ∃ i, rs = [.dat (.int i)] ∧ P (.dat (.int i))
theorem ka_int : CallA X c (.type "int") kInt := ⟨callR_imp call_int1 fun vs H Q ⟨rs, P, _, h, ⟨i, e, p⟩, k⟩ => by
  subst e
  obtain ⟨v, rfl, ro⟩ := ros_one h
  cases ro.int
  exact .inl ⟨i, rfl, k _ H _ (Fx.refl H) (rr_int _) p⟩⟩
/-- sum of ints and bools -/
def numOf : PyData → Option Int
  | .int i => some i
  | .bool b => some (if b = true then 1 else 0)
  | _ => none
def numsOf2 : List PyData → Option (List Int)
  | [] => some []
  | d :: r => match numOf d, numsOf2 r with
    | some i, some l => some (i :: l)
    | _, _ => none
def seqOf : RV → Option (List PyData)
  | .dat (.tuple xs) => some xs
  | .new xs => some xs
  | .vw xs => some xs
  | .al xs => some xs
  | _ => none
def vNum : V → Option Int
  | .int i => some i
  | .bl b => some (if b = true then 1 else 0)
  | _ => none
def rSumA (K : PySem.W.Frag) : List V → Hp → VK → Prop := fun vs H Q => ∃ (a : Addr) (xs : List V) (ns : List Int), vs = [V.ref a] ∧ (SqL K H a xs ∨ SqT K H a xs) ∧ Paired (fun v i => vNum v = some i) xs ns ∧ Q (.int ns.sum) H
theorem preSum_take (ns : List Int) : ∀ n, n ≤ ns.length → preSum (fun i => ns.getD i 0) n = (ns.take n).sum
  | 0, _ => by simp [preSum]
  | n + 1, h => by
    rw [preSum, preSum_take ns n (by omega), List.take_add_one, List.sum_append]
    have e : ns[n]? = some ns[n] := List.getElem?_eq_getElem (by omega)
    rw [e]
    simp [List.getD, e]
theorem vnum_rel {v : V} {u : Value} {i : Int} (r : RelV v u) (h : vNum v = some i) : NumOf i u := by
  cases v with
  | int j =>
    obtain ⟨t, rfl⟩ := r
    cases h
    exact .inl ⟨t, rfl⟩
  | bl b =>
    cases r
    cases h
    exact .inr ⟨b, rfl, rfl⟩
  | non => cases h
  | str _ => cases h
  | byt _ => cases h
  | flt _ => cases h
  | ref _ => cases h
  | ty _ => cases h
theorem vnums_at : ∀ {xs : List V} {us : List Value} {ns : List Int} {i : Nat} {u : Value}, Vals xs us → Paired (fun v i => vNum v = some i) xs ns → us[i]? = some u → NumOf (ns.getD i 0) u
  | _, _, _, i, u, .nil, _, e => by simp at e
  | _, _, _, 0, u, .cons r _, .cons h _, e => by
    simp at e
    subst e
    simpa using vnum_rel r h
  | _, _, _, i + 1, u, .cons _ t, .cons _ k, e => by
    have := vnums_at (i := i) t k (by simpa using e)
    simpa using this
theorem cr_sumA (hc : X.calm = true) : CallR X (.builtin "sum") (rSumA X.K) := by
  intro pins s σ H vs us Q I r h
  obtain ⟨a, xs, ns, rfl, hs, hn, q⟩ := h
  have hlen : xs.length = ns.length := by
    clear hs q
    induction hn with
    | nil => rfl
    | cons _ _ ih => simp [ih]
  rw [Vals.ref1 r]
  refine call_sum_walkAnyB ?_
  rcases hs with hs | hs
  · obtain ⟨its, rv, hl, _⟩ := I.list hs
    have hlt : a < s.heap.objs.size := by obtain ⟨_, e, _⟩ := hl.isList; exact Heap.lt_size e
    refine iter_any hl.isList fun s2 e2 st hne => ?_
    subst e2
    refine ⟨_, _, _, _, _, _, _, fun i => ns.getD i 0, rfl, (Walks.list (A := X.A.in1) (I.ok.hd hc) _ a hne its.toArray).toS, st, fun b hb => ?_, fun i v hv => vnums_at rv hn (by simpa using hv), fun s' t' hm => ?_⟩
    · show b < (s.heap.push _).objs.size
      rw [Heap.size_push]
      rcases List.mem_cons.mp hb with e | hb
      · rw [e]; exact Nat.lt_succ_self _
      · rcases List.mem_cons.mp hb with e | hb
        · rw [e]; exact Nat.lt_succ_of_lt hlt
        · cases hb
    · rw [preSum_take ns _ (by rw [List.size_toArray, ← rv.length, hlen]; exact Nat.le_refl _), List.take_of_length_le (by rw [List.size_toArray, ← rv.length, hlen]; exact Nat.le_refl _)]
      refine ⟨.int _, H, ?_, ⟨_, rfl⟩, q⟩
      have I2 : Inv X pins σ H { s with heap := s'.heap, toks := s'.toks } := I.kept fun b o eo => hm.heap b o (fun hmem => ?_) (Heap.get?_push_of_some _ eo)
      · have e : ({ s with heap := s'.heap, toks := s'.toks } : Shared) = s' := by
          obtain ⟨h1, h2, h3, h4, h5⟩ := s'
          have g1 := hm.gens
          have g2 := hm.drawn
          have g3 := hm.os
          simp only at g1 g2 g3 ⊢
          rw [g1, g2, g3]
        rw [e] at I2
        exact I2
      · rcases List.mem_cons.mp hmem with e1 | hmem
        · exact absurd (e1 ▸ Heap.lt_size eo) (Nat.lt_irrefl _)
        · cases hmem
  · obtain ⟨its, rv, ht, _⟩ := I.tuple hs
    have hlt : a < s.heap.objs.size := ht.lt
    have hne : a ≠ s.heap.objs.size := Nat.ne_of_lt hlt
    refine wpAny_pyIter_tuple ht ⟨_, _, _, _, _, _, _, fun i => ns.getD i 0, rfl, (Walks.tuple (A := X.A.in1) (I.ok.hd hc) _ a hne its.toArray).toS, ⟨⟨_, Heap.get?_push_size _ rfl, rfl, rfl⟩, ?_⟩, fun b hb => ?_, fun i v hv => vnums_at rv hn (by simpa using hv), fun s' t' hm => ?_⟩
    · exact ht.push _
    · show b < (s.heap.push _).objs.size
      rw [Heap.size_push]
      rcases List.mem_cons.mp hb with e | hb
      · rw [e]; exact Nat.lt_succ_self _
      · rcases List.mem_cons.mp hb with e | hb
        · rw [e]; exact Nat.lt_succ_of_lt hlt
        · cases hb
    · rw [preSum_take ns _ (by rw [List.size_toArray, ← rv.length, hlen]; exact Nat.le_refl _), List.take_of_length_le (by rw [List.size_toArray, ← rv.length, hlen]; exact Nat.le_refl _)]
      refine ⟨.int _, H, ?_, ⟨_, rfl⟩, q⟩
      have I2 : Inv X pins σ H { s with heap := s'.heap, toks := s'.toks } := I.kept fun b o eo => hm.heap b o (fun hmem => ?_) (Heap.get?_push_of_some _ eo)
      · have e : ({ s with heap := s'.heap, toks := s'.toks } : Shared) = s' := by
          obtain ⟨h1, h2, h3, h4, h5⟩ := s'
          have g1 := hm.gens
          have g2 := hm.drawn
          have g3 := hm.os
          simp only at g1 g2 g3 ⊢
          rw [g1, g2, g3]
        rw [e] at I2
        exact I2
      · rcases List.mem_cons.mp hmem with e1 | hmem
        · exact absurd (e1 ▸ Heap.lt_size eo) (Nat.lt_irrefl _)
        · cases hmem
end
end Ab

namespace Ab
open PySem PySem.Spec PyProof.Rows L2
section
variable {X : Cx} {c : Ctx} {e a b : Expr} {es : List Expr} {A B : XE} {L : XA} {pos p : Pos}

theorem seqOf_ok {H : Hp} {v : V} {r : RV} {ds : List PyData} (h : RO c H v r) (e : seqOf r = some ds) : ∃ a vs, v = .ref a ∧ (SqL c.K H a vs ∨ SqT c.K H a vs) ∧ DpAll c.K H vs ds ∧ immAll ds = true := by
  cases r with
  | dat d =>
    cases d with
    | tuple xs =>
      cases e
      obtain ⟨a, vs, rfl, t1, d1, i1⟩ := h.tup
      exact ⟨a, vs, rfl, .inr t1, d1, i1⟩
    | none => cases e
    | bool i => cases e
    | int i => cases e
    | str i => cases e
    | list xs => cases e
    | dict xs => cases e
  | new xs =>
    cases e
    obtain ⟨a, vs, rfl, _, t1, d1, i1⟩ := h.lst rfl
    exact ⟨a, vs, rfl, .inl t1, d1, i1⟩
  | vw xs =>
    cases e
    obtain ⟨a, vs, rfl, _, t1, d1, i1⟩ := h.lst rfl
    exact ⟨a, vs, rfl, .inl t1, d1, i1⟩
  | al xs =>
    cases e
    obtain ⟨a, vs, rfl, _, t1, d1, i1⟩ := h.lst rfl
    exact ⟨a, vs, rfl, .inl t1, d1, i1⟩
  | obj p => cases e
theorem numsOf2_ok {K : PySem.W.Frag} {H : Hp} : ∀ {vs : List V} {ds : List PyData} {ns : List Int}, DpAll K H vs ds → numsOf2 ds = some ns → Paired (fun v i => vNum v = some i) vs ns
  | _, _, ns, .nil, e => by cases e; exact .nil
  | _, _, ns, .cons (d := d) (ds := r) h t, e => by
    unfold numsOf2 at e
    cases e1 : numOf d with
    | none => rw [e1] at e; simp at e
    | some i =>
      cases e2 : numsOf2 r with
      | none => rw [e1, e2] at e; simp at e
      | some l =>
        rw [e1, e2] at e
        cases e
        refine .cons ?_ (numsOf2_ok t e2)
        cases h with
        | int j => exact e1
        | bl j => exact e1
        | non => cases e1
        | str j => cases e1
        | lst _ _ => cases e1
        | tup _ _ => cases e1
def kSum : XC := fun rs P => ∃ r ds ns, rs = [r] ∧ seqOf r = some ds ∧ numsOf2 ds = some ns ∧ P (.dat (.int ns.sum))
theorem ka_sum (hc : X.calm = true) (hK : X.K = c.K := by rfl) : CallA X c (.builtin "sum") kSum := ⟨callR_imp (cr_sumA hc) fun vs H Q ⟨rs, P, _, h, ⟨r, ds, ns, e, e1, e2, p⟩, k⟩ => by
  subst e
  obtain ⟨v, rfl, ro⟩ := ros_one h
  obtain ⟨a, vs, rfl, t1, d1, i1⟩ := seqOf_ok ro e1
  rw [hK]
  exact ⟨a, vs, ns, rfl, t1, numsOf2_ok d1 e2, k _ H _ (Fx.refl H) (rr_int _) p⟩⟩
/-- list(..) of a list, a tuple -/
def kList : XC := fun rs P => ∃ r ds, rs = [r] ∧ seqOf r = some ds ∧ P (.new ds)
theorem ka_list (hK : X.K = c.K := by rfl) : CallA X c (.type "list") kList := ⟨callR_imp call_list_of fun vs H Q ⟨rs, P, ⟨σ, Γ, at_⟩, h, ⟨r, ds, e, e1, p⟩, k⟩ => by
  subst e
  obtain ⟨v, rfl, ro⟩ := ros_one h
  obtain ⟨a, vs, rfl, t1, d1, i1⟩ := seqOf_ok ro e1
  rw [hK]
  refine ⟨a, vs, rfl, t1, fun l hl => ?_⟩
  have f : Fx [] H (upd H l (.lst vs)) := Fx.new hl
  exact k _ _ _ f (rr_new hl (at_.fresh hl).1 upd_same (dpAll_mono f.tup _ _ i1 d1) i1) p⟩
/-- tuple(..) of a list, a tuple -/
def kTuple : XC := fun rs P => ∃ r ds, rs = [r] ∧ seqOf r = some ds ∧ P (.dat (.tuple ds))
theorem ka_tuple (hK : X.K = c.K := by rfl) : CallA X c (.type "tuple") kTuple := ⟨callR_imp call_tuple_of fun vs H Q ⟨rs, P, _, h, ⟨r, ds, e, e1, p⟩, k⟩ => by
  subst e
  obtain ⟨v, rfl, ro⟩ := ros_one h
  rw [hK]
  obtain ⟨a, vs, rfl, t1, d1, i1⟩ := seqOf_ok ro e1
  rcases t1 with t1 | t1
  · refine ⟨a, vs, rfl, .inl ⟨t1, fun l hl => ?_⟩⟩
    have f : Fx [] H (upd H l (.tup vs)) := Fx.new hl
    exact k _ _ _ f (rr_tup upd_same (dpAll_mono f.tup _ _ i1 d1) i1) p
  · exact ⟨a, vs, rfl, .inr ⟨t1, k _ H _ (Fx.refl H) (rr_dat ⟨.tup t1 d1, by simpa [imm] using i1⟩) p⟩⟩⟩
/-- isinstance(x, bool), isinstance(x, tuple): the second argument a name of a built-in class -/
def isTyp (n : String) : V → Prop := fun v => v = .ty n
def isinst (n : String) : PyData → Option Bool
  | .none => kitB "NoneType" n
  | .bool _ => kitB "bool" n
  | .int _ => kitB "int" n
  | .str _ => kitB "str" n
  | .tuple _ => kitB "tuple" n
  | _ => Option.none
theorem tyX_of {H : Hp} {v : V} {d : PyData} (h : Dp c.K H v d) (hi : imm d = true) : ∃ t : String, TyX c.K H v (.type t) ∧ ∀ n, isinst n d = kitB t n := by
  cases h with
  | non => exact ⟨"NoneType", .base .non, fun n => rfl⟩
  | bl b => exact ⟨"bool", .base (.bl b), fun n => rfl⟩
  | int i => exact ⟨"int", .base (.int i), fun n => rfl⟩
  | str x => exact ⟨"str", .base (.str x), fun n => rfl⟩
  | tup hs ha =>
    refine ⟨"tuple", ?_, fun n => rfl⟩
    rcases hs with (hs | ⟨o, hs⟩) | ⟨o, its, n, h1, h2, _⟩
    · exact .base (.tup hs)
    · exact .fTuple hs
    · exact .kTuple h1 h2
  | lst _ _ => simp [imm] at hi
def kIsi : XC := fun rs P => ∃ d n b, rs = [.dat d, .obj (isTyp n)] ∧ isinst n d = some b ∧ P (.dat (.bool b))
theorem ka_isi (hK : X.K = c.K := by rfl) : CallA X c (.builtin "isinstance") kIsi := ⟨callR_imp call_isi fun vs H Q ⟨rs, P, _, h, ⟨d, n, b, e, e1, p⟩, k⟩ => by
  subst e
  obtain ⟨v, u, rfl, r1, r2⟩ := ros_two h
  have e2 : u = .ty n := r2.choose_spec
  subst e2
  obtain ⟨t, ty, ht⟩ := tyX_of r1.dat.1 r1.dat.2
  rw [hK]
  rw [ht] at e1
  exact ⟨v, _, _, _, b, rfl, .ty n, ty, kit_ty e1, k _ H _ (Fx.refl H) (rr_bl _) p⟩⟩
/-- a built-in class's name as a value -/
def aTy (n : String) : XE := fun _ P => P (.obj (isTyp n))
theorem ae_tyname {x : Str} {n : String} (hg : Gl X x) (hm : X.mg x = none) (hv : bootBuiltins x = some (.type n)) (hn : x ≠ "__name__" := by decide) (hd : (x == ("__debug__" : Str)) = false := by decide) : PEa X c (.Name x pos) (aTy n) :=
  ⟨pe_imp (pe_bltn (v := .ty n) hg hm hv rfl hn hd) fun σ H Q ⟨Γ, P, at_, p, k⟩ => k _ H (.obj (isTyp n)) (Fx.refl H) at_ rfl p⟩

/-! ### items, slices -/
theorem dpAll_atI {K : PySem.W.Frag} {H : Hp} {vs : List V} {ds : List PyData} {i : Int} {d : PyData} (h : DpAll K H vs ds) (e : atI ds i = some d) : ∃ v, atI vs i = some v ∧ Dp K H v d := by
  unfold atI at e ⊢
  rw [dpAll_length h]
  cases q : ixN ds.length i with
  | none => rw [q] at e; cases e
  | some j =>
    rw [q] at e
    exact dpAll_get h e
theorem atI_mem {α : Type} {xs : List α} {i : Int} {v : α} (h : atI xs i = some v) : v ∈ xs := by
  obtain ⟨j, _, e, _⟩ := atI_get h
  exact List.mem_of_getElem? e
def oIx : XO := fun x y P => (∃ ds i d, seqOf x = some ds ∧ y = .dat (.int i) ∧ atI ds i = some d ∧ P (.dat d)) ∨ ∃ z i k, x = .dat (.str z) ∧ y = .dat (.int i) ∧ z.length ≤ sizeLine ∧ atI z.cps.toList i = some k ∧ P (.dat (.str ⟨#[k]⟩))
theorem ae_ix (ha : PEa X c a A) (hb : PEa X c b B) (hs : PlainIx b := by exact fun _ _ => rfl) (hK : X.K = c.K := by rfl) : PEa X c (.Subscript a b pos) (aOp oIx A B) :=
  ⟨pe_imp (pe_ix ix_seq ha.pe hb.pe hs) (two_imp (fun x y H Q ⟨rx, ry, P, _, r1, r2, o, k⟩ => by
    rw [hK]
    rcases o with ⟨ds, i, d, e1, e2, e3, p⟩ | ⟨z, i, j, e1, e2, h1, h2, p⟩
    · subst e2
      cases r2.int
      obtain ⟨a, vs, rfl, t1, d1, i1⟩ := seqOf_ok r1 e1
      obtain ⟨v, hv, dv⟩ := dpAll_atI d1 e3
      have q := k v H _ (Fx.refl H) (rr_dat ⟨dv, immAll_mem i1 (atI_mem e3)⟩) p
      rcases t1 with t1 | t1
      · exact .inl ⟨a, vs, i, v, rfl, rfl, t1, hv, q⟩
      · exact .inr (.inl ⟨a, vs, i, v, rfl, rfl, t1, hv, q⟩)
    · subst e1 e2
      cases r1.str
      cases r2.int
      exact .inr (.inr ⟨z, i, j, rfl, rfl, h1, h2, k _ H _ (Fx.refl H) (rr_str _) p⟩)) (fun _ _ _ h => h) (fun _ _ _ h => h))⟩
/-- a[lo:hi] -/
abbrev XOp := Gam → (Option Int → Prop) → Prop
def gO2 (c : Ctx) (A : XOp) : TO := fun σ H Q => ∃ Γ P, At c σ H Γ ∧ A Γ P ∧ ∀ b H', Fx c.S H H' → At c σ H' Γ → P b → Q b H'
structure POa (X : Cx) (c : Ctx) (e : Option Expr) (A : XOp) : Prop where
  po : PO X e (gO2 c A)
theorem po_imp {e : Option Expr} {t u : TO} (h : PO X e t) (w : ∀ σ H Q, u σ H Q → t σ H Q) : PO X e u := ⟨fun pins s σ H Q I hu => h.run pins s σ H Q I (w _ _ _ hu)⟩
def aNoPart : XOp := fun _ P => P none
def aPart (A : XE) : XOp := fun Γ P => A Γ fun r => ∃ i, r = .dat (.int i) ∧ P (some i)
theorem ao_none : POa X c none aNoPart := ⟨po_imp po_none fun σ H Q ⟨Γ, P, at_, p, k⟩ => k _ H (Fx.refl H) at_ p⟩
theorem ao_some (ha : PEa X c a A) : POa X c (some a) (aPart A) := ⟨po_imp (po_some ha.pe) fun σ H Q ⟨Γ, P, at_, p, k⟩ => ⟨Γ, _, at_, p, fun v H1 rx f1 at1 r1 ⟨i, e, q⟩ => by
  subst e
  exact ⟨i, r1.ro.int, k _ H1 f1 at1 q⟩⟩⟩
def cutD {α : Type} (xs : List α) (lo hi : Option Int) : List α := (xs.drop (HT.sIx xs.length 0 lo)).take (HT.sIx xs.length xs.length hi - HT.sIx xs.length 0 lo)
theorem cutD_len {α : Type} (xs : List α) (lo hi : Option Int) : (cutD xs lo hi).length ≤ xs.length := by
  unfold cutD
  rw [List.length_take, List.length_drop]
  omega
theorem dpAll_cut {K : PySem.W.Frag} {H : Hp} {vs : List V} {ds : List PyData} (h : DpAll K H vs ds) (lo hi : Option Int) : DpAll K H (cutV vs lo hi) (cutD ds lo hi) := by
  unfold cutV cutD
  rw [dpAll_length h]
  exact dpAll_take _ (dpAll_drop _ h)
theorem immAll_cut {ds : List PyData} (h : immAll ds = true) (lo hi : Option Int) : immAll (cutD ds lo hi) = true := immAll_take _ (immAll_drop _ h)
abbrev XSl := RV → Option Int → Option Int → (RV → Prop) → Prop
def oSl : XSl := fun x lo hi P => (∃ ds, x.lst? = some ds ∧ P (.new (cutD ds lo hi))) ∨ (∃ ds, x = .dat (.tuple ds) ∧ P (.dat (.tuple (cutD ds lo hi)))) ∨ ∃ z, x = .dat (.str z) ∧ z.length ≤ sizeLine ∧ P (.dat (.str (cutS z lo hi)))
def aSl (A : XE) (lo hi : XOp) : XE := fun Γ P => A Γ fun x => lo Γ fun l => hi Γ fun h => oSl x l h P
theorem sIx_all (n : Nat) (lo hi : Option Int) {α : Type} (xs : List α) (hn : xs.length = n) (h : HT.sIx n 0 lo = 0 ∧ HT.sIx n n hi = n) : cutD xs lo hi = xs := by
  unfold cutD
  rw [hn, h.1, h.2, List.drop_zero, Nat.sub_zero]
  exact List.take_of_length_le (by omega)
theorem ae_slice {lo hi : Option Expr} {l h : XOp} {p2 : Pos} (ha : PEa X c a A) (hl : POa X c lo l) (hh : POa X c hi h) (hK : X.K = c.K := by rfl) : PEa X c (.Subscript a (.Slice lo hi none p2) pos) (aSl A l h) :=
  ⟨pe_imp (pe_slice ((sl_list (X := X)).or (sl_tupA.or sl_str)) ha.pe hl.po hh.po) fun σ H Q ⟨Γ, P, at_, p, k⟩ => by
    refine ⟨Γ, _, at_, p, fun v H1 rx f1 at1 r1 q1 => ⟨Γ, _, at1, q1, fun lo H2 f2 at2 q2 => ⟨Γ, _, at2, q2, fun hi H3 f3 at3 o => ?_⟩⟩⟩
    have f := (f1.trans f2).trans f3
    have ro := ((r1.mono f2).mono f3).ro
    rcases o with ⟨ds, e, pp⟩ | ⟨ds, e, pp⟩ | ⟨z, e, hz, pp⟩
    · obtain ⟨a, vs, rfl, _, t1, d1, i1⟩ := ro.lst e
      refine .inl ?_
      rw [hK]
      refine ⟨a, vs, rfl, t1, fun x hx => ?_⟩
      have g : Fx [] H3 (upd H3 x (.lst (cutV vs lo hi))) := Fx.new hx
      have n := (at3.fresh hx).1
      exact k _ _ _ (f.trans g.nil) (at3.ext g) (rr_new (f.free n hx) n upd_same (dpAll_mono g.tup _ _ (immAll_cut i1 _ _) (dpAll_cut d1 _ _)) (immAll_cut i1 _ _)) pp
    · subst e
      obtain ⟨a, vs, rfl, t1, d1, i1⟩ := ro.tup
      refine .inr (.inl ?_)
      rw [hK]
      refine ⟨a, vs, rfl, t1, fun hw => ?_, fun _ x hx => ?_⟩
      · rw [sIx_all vs.length lo hi ds (dpAll_length d1).symm hw] at pp
        exact k _ H3 _ f at3 (rr_dat ro.dat) pp
      · have g : Fx [] H3 (upd H3 x (.tup (cutV vs lo hi))) := Fx.new hx
        exact k _ _ _ (f.trans g.nil) (at3.ext g) (rr_tup upd_same (dpAll_mono g.tup _ _ (immAll_cut i1 _ _) (dpAll_cut d1 _ _)) (immAll_cut i1 _ _)) pp
    · subst e
      cases ro.str
      exact .inr (.inr ⟨z, rfl, hz, k _ H3 _ f at3 (rr_str _) pp⟩)⟩
/-- list(range(a, b)) -/
def rangeD (i j : Int) : List PyData := (List.range (j - i).toNat).map fun k => .int (i + (k : Nat))
theorem dpAll_rgV {K : PySem.W.Frag} {H : Hp} (i j : Int) : DpAll K H (rgV i j) (rangeD i j) := by
  unfold rgV rangeD
  generalize List.range (j - i).toNat = l
  induction l with
  | nil => exact .nil
  | cons x l ih => exact .cons (.int _) ih
theorem immAll_rangeD (i j : Int) : immAll (rangeD i j) = true := immAll_of fun x hx => by
  unfold rangeD at hx
  obtain ⟨k, _, rfl⟩ := List.mem_map.mp hx
  rfl
def aLRange (A B : XE) : XE := fun Γ P => A Γ fun x => B Γ fun y => ∃ i j, x = .dat (.int i) ∧ y = .dat (.int j) ∧ RgOk i j ∧ P (.new (rangeD i j))
theorem ae_lrange {p1 p2 pos1 pos2 : Pos} (hc : X.calm = true) (hl : Gl X "list") (hml : X.mg "list" = none) (hg : Gl X "range") (hm : X.mg "range" = none) (ha : PEa X c a A) (hb : PEa X c b B) (na : starEach [a, b] X.env = (false, eval a X.env) :: starEach [b] X.env := by rfl)
    (nb : starEach [b] X.env = (false, eval b X.env) :: starEach [] X.env := by rfl) (hp : (backTo pos1 (starEach [b] X.env)).any (·.1) = false := by rfl)
    (nl : starEach [.Call (.Name "range" p1) [a, b] [] pos1] X.env = (false, eval (.Call (.Name "range" p1) [a, b] [] pos1) X.env) :: starEach [] X.env := by rfl) :
    PEa X c (.Call (.Name "list" p2) [.Call (.Name "range" p1) [a, b] [] pos1] [] pos2) (aLRange A B) := ⟨pe_imp (pe_listRg hc hl hml (prg_2 hg hm ha.pe hb.pe na nb hp) nl) fun σ H Q ⟨Γ, P, at_, p, k⟩ => by
  refine ⟨Γ, _, at_, p, fun v H1 rx f1 at1 r1 q1 => ⟨Γ, _, at1, q1, fun u H2 ry f2 at2 r2 ⟨i, j, e1, e2, h, q⟩ => ?_⟩⟩
  subst e1 e2
  refine ⟨i, j, (r1.mono f2).ro.int, r2.ro.int, h, fun x hx => ?_⟩
  have f := f1.trans f2
  have g : Fx [] H2 (upd H2 x (.lst (rgV i j))) := Fx.new hx
  have n := (at2.fresh hx).1
  exact k _ _ _ (f.trans g.nil) (at2.ext g) (rr_new (f.free n hx) n upd_same (dpAll_rgV i j) (immAll_rangeD i j)) q⟩
end
end Ab

namespace Ab
open PySem PySem.Spec PyProof.Rows L2

/-! ### environments changed -/
section
variable {c : Ctx} {σ : L2.St} {H H' : Hp} {Γ : Gam}
/-- a slot takes data, a thing -/
theorem At.setD (a : At c σ H Γ) {i : Nat} {v : V} {g : G} (h : GR c H v g) (hg : ∀ ds, g ≠ .own ds) (hi : i < Γ.length) : At c (σ.set i (some v)) H (Γ.set i (some g)) := by
  have hσ : i < σ.length := by rw [a.len]; exact hi
  refine ⟨a.ok, by rw [List.length_set, List.length_set]; exact a.len, fun j g' e => ?_, fun j k u ds es e1 e2 e3 e4 => ?_, a.kp, a.J⟩
  · by_cases hj : i = j
    · subst hj
      rw [List.getElem?_set_self hi] at e
      cases e
      exact ⟨v, by rw [List.getElem?_set_self hσ], h⟩
    · rw [List.getElem?_set_ne hj] at e
      obtain ⟨u, h1, h2⟩ := a.slot j g' e
      exact ⟨u, by rw [List.getElem?_set_ne hj]; exact h1, h2⟩
  · have nj : i ≠ j := fun z => by
      subst z
      rw [List.getElem?_set_self hi] at e1
      cases e1
      exact hg ds rfl
    have nk : i ≠ k := fun z => by
      subst z
      rw [List.getElem?_set_self hi] at e2
      cases e2
      exact hg es rfl
    rw [List.getElem?_set_ne nj] at e1 e3
    rw [List.getElem?_set_ne nk] at e2 e4
    exact a.sep j k u ds es e1 e2 e3 e4
/-- a slot takes a new list: fresh at an earlier heap of the same environment -/
theorem At.setO (a : At c σ H Γ) {H0 : Hp} (a0 : At c σ H0 Γ) {i : Nat} {x : Addr} {ds : List PyData} (h : GR c H (.ref x) (.own ds)) (hx : H0 x = none) (hi : i < Γ.length) : At c (σ.set i (some (.ref x))) H (Γ.set i (some (.own ds))) := by
  have hσ : i < σ.length := by rw [a.len]; exact hi
  have other : ∀ (j : Nat) (es : List PyData) (u : V), Γ[j]? = some (some (.own es)) → σ[j]? = some (some u) → u ≠ .ref x := fun j es u e1 e2 z => by
    obtain ⟨v, h1, y, vs, h2, _, _, h3, _⟩ := a0.slot j _ e1
    rw [e2] at h1
    cases h1
    rw [z] at h2
    cases h2
    rw [hx] at h3
    cases h3
  refine ⟨a.ok, by rw [List.length_set, List.length_set]; exact a.len, fun j g' e => ?_, fun j k u es fs e1 e2 e3 e4 => ?_, a.kp, a.J⟩
  · by_cases hj : i = j
    · subst hj
      rw [List.getElem?_set_self hi] at e
      cases e
      exact ⟨_, by rw [List.getElem?_set_self hσ], h⟩
    · rw [List.getElem?_set_ne hj] at e
      obtain ⟨u, h1, h2⟩ := a.slot j g' e
      exact ⟨u, by rw [List.getElem?_set_ne hj]; exact h1, h2⟩
  · by_cases hj : i = j
    · by_cases hk : i = k
      · exact hj.symm.trans hk
      · subst hj
        rw [List.getElem?_set_self hσ] at e3
        cases e3
        rw [List.getElem?_set_ne hk] at e2 e4
        exact absurd rfl (other k fs _ e2 e4)
    · by_cases hk : i = k
      · subst hk
        rw [List.getElem?_set_self hσ] at e4
        cases e4
        rw [List.getElem?_set_ne hj] at e1 e3
        exact absurd rfl (other j es _ e1 e3)
      · rw [List.getElem?_set_ne hj] at e1 e3
        rw [List.getElem?_set_ne hk] at e2 e4
        exact a.sep j k u es fs e1 e2 e3 e4
/-- an own list is changed -/
theorem At.write (a : At c σ H Γ) {i : Nat} {x : Addr} {ds es : List PyData} {vs : List V} (hΓ : Γ[i]? = some (some (.own ds))) (hσ : σ[i]? = some (some (.ref x))) (hd : DpAll c.K H vs es) (hi : immAll es = true) :
    At c σ (upd H x (.lst vs)) (Γ.set i (some (.own es))) := by
  obtain ⟨v, h1, y, ws, h2, h3, h4, h5, h6, h7⟩ := a.slot i _ hΓ
  rw [hσ] at h1
  cases h1
  cases h2
  have t : TEx H (upd H x (.lst vs)) := tex_lst h5
  have il : i < Γ.length := (List.getElem?_eq_some_iff.mp hΓ).1
  have ne : ∀ b, c.H0 b ≠ none → b ≠ x := fun b hb z => by rw [z] at hb; exact hb h3
  have ne2 : ∀ b o, (c.H0 b ≠ none ∨ ∀ xs, o ≠ .lst xs) → H b = some o → b ≠ x := fun b o hb e z => hb.elim (fun q => ne b q z) fun q => q ws (by rw [z, h5] at e; exact (Option.some.inj e).symm)
  refine ⟨a.ok, by rw [List.length_set]; exact a.len, fun j g e => ?_, fun j k u es' fs e1 e2 e3 e4 => ?_, ⟨fun b o n e => ?_, fun b xs r => t b xs (a.kp.tup b xs r)⟩, a.ok.jst H _ a.J fun b o hb e => by rw [upd_ne (ne2 b o hb e)]; exact e⟩
  · by_cases hj : i = j
    · subst hj
      rw [List.getElem?_set_self il] at e
      cases e
      exact ⟨_, hσ, x, vs, rfl, h3, h4, upd_same, dpAll_mono t _ _ hi hd, hi⟩
    · rw [List.getElem?_set_ne hj] at e
      obtain ⟨u, g1, g2⟩ := a.slot j g e
      refine ⟨u, g1, ?_⟩
      cases g with
      | dat d => exact ⟨dp_mono t d u g2.2 g2.1, g2.2⟩
      | vw fs =>
        obtain ⟨y, us, rfl, k1, k2, k3, k4⟩ := g2
        exact ⟨y, us, rfl, k1, k2, dpAll_mono t _ _ k4 k3, k4⟩
      | own fs =>
        obtain ⟨y, us, rfl, k1, k2, k3, k4, k5⟩ := g2
        refine ⟨y, us, rfl, k1, k2, ?_, dpAll_mono t _ _ k5 k4, k5⟩
        rw [upd_ne fun z => hj (a.sep i j (.ref x) ds fs hΓ e hσ (by rw [← z]; exact g1))]
        exact k3
      | obj p => exact g2
  · have q1 : ∃ ds', Γ[j]? = some (some (.own ds')) := by
      by_cases hj : i = j
      · subst hj; exact ⟨ds, hΓ⟩
      · rw [List.getElem?_set_ne hj] at e1; exact ⟨_, e1⟩
    have q2 : ∃ ds', Γ[k]? = some (some (.own ds')) := by
      by_cases hk : i = k
      · subst hk; exact ⟨ds, hΓ⟩
      · rw [List.getElem?_set_ne hk] at e2; exact ⟨_, e2⟩
    obtain ⟨_, q1⟩ := q1
    obtain ⟨_, q2⟩ := q2
    exact a.sep j k u _ _ q1 q2 e3 e4
  · have e2 := a.kp.keep b o n e
    rw [upd_ne (ne b (by rw [e]; simp))]
    exact e2
/-- a list that no slot holds is changed -/
theorem At.other (a : At c σ H Γ) {x : Addr} {vs ws : List V} (h0 : c.H0 x = none) (hx : H x = some (.lst ws)) (no : ∀ (j : Nat) ds, Γ[j]? = some (some (.own ds)) → σ[j]? ≠ some (some (.ref x))) : At c σ (upd H x (.lst vs)) Γ := by
  have t : TEx H (upd H x (.lst vs)) := tex_lst hx
  have ne : ∀ b, c.H0 b ≠ none → b ≠ x := fun b hb z => by rw [z] at hb; exact hb h0
  have ne2 : ∀ b o, (c.H0 b ≠ none ∨ ∀ xs, o ≠ .lst xs) → H b = some o → b ≠ x := fun b o hb e z => hb.elim (fun q => ne b q z) fun q => q ws (by rw [z, hx] at e; exact (Option.some.inj e).symm)
  refine ⟨a.ok, a.len, fun j g e => ?_, a.sep, ⟨fun b o n e => ?_, fun b xs r => t b xs (a.kp.tup b xs r)⟩, a.ok.jst H _ a.J fun b o hb e => by rw [upd_ne (ne2 b o hb e)]; exact e⟩
  · obtain ⟨u, g1, g2⟩ := a.slot j g e
    refine ⟨u, g1, ?_⟩
    cases g with
    | dat d => exact ⟨dp_mono t d u g2.2 g2.1, g2.2⟩
    | vw fs =>
      obtain ⟨y, us, rfl, k1, k2, k3, k4⟩ := g2
      exact ⟨y, us, rfl, k1, k2, dpAll_mono t _ _ k4 k3, k4⟩
    | own fs =>
      obtain ⟨y, us, rfl, k1, k2, k3, k4, k5⟩ := g2
      refine ⟨y, us, rfl, k1, k2, ?_, dpAll_mono t _ _ k5 k4, k5⟩
      rw [upd_ne fun z => no j fs e (by rw [← z]; exact g1)]
      exact k3
    | obj p => exact g2
  · have e2 := a.kp.keep b o n e
    rw [upd_ne (ne b (by rw [e]; simp))]
    exact e2
/-- fewer slots are known -/
theorem At.sub (a : At c σ H Γ) {σ' : L2.St} {Γ' : Gam} (hl : σ'.length = Γ'.length) (h : ∀ (i : Nat) g, Γ'[i]? = some (some g) → Γ[i]? = some (some g) ∧ σ'[i]? = σ[i]?) : At c σ' H Γ' := by
  refine ⟨a.ok, hl, fun i g e => ?_, fun i j v ds es e1 e2 e3 e4 => ?_, a.kp, a.J⟩
  · obtain ⟨h1, h2⟩ := h i g e
    obtain ⟨v, h3, h4⟩ := a.slot i g h1
    exact ⟨v, by rw [h2]; exact h3, h4⟩
  · obtain ⟨h1, h2⟩ := h i _ e1
    obtain ⟨k1, k2⟩ := h j _ e2
    rw [h2] at e3
    rw [k2] at e4
    exact a.sep i j v ds es h1 k1 e3 e4
theorem At.left {τ : L2.St} {Δ : Gam} (a : At c (σ ++ τ) H (Γ ++ Δ)) (hl : σ.length = Γ.length) : At c σ H Γ := by
  refine a.sub hl fun i g e => ?_
  have hi : i < Γ.length := (List.getElem?_eq_some_iff.mp e).1
  exact ⟨by rw [List.getElem?_append_left hi]; exact e, by rw [List.getElem?_append_left (by omega)]⟩
/-- one more, at the end -/
theorem At.pushD (a : At c σ H Γ) {v : V} {g : G} (h : GR c H v g) (hg : ∀ ds, g ≠ .own ds) : At c (σ ++ [some v]) H (Γ ++ [some g]) := by
  have a1 : At c (σ ++ [none]) H (Γ ++ [none]) := by
    refine ⟨a.ok, by simp [a.len], fun i g' e => ?_, fun i j v ds es e1 e2 e3 e4 => ?_, a.kp, a.J⟩
    · by_cases hi : i < Γ.length
      · rw [List.getElem?_append_left hi] at e
        obtain ⟨u, h1, h2⟩ := a.slot i g' e
        exact ⟨u, by rw [List.getElem?_append_left (by rw [a.len]; exact hi)]; exact h1, h2⟩
      · rw [List.getElem?_append_right (by omega)] at e
        cases q : i - Γ.length with
        | zero => rw [q] at e; simp at e
        | succ n => rw [q] at e; simp at e
    · have l1 : ∀ (i : Nat) g', (Γ ++ [none])[i]? = some (some g') → i < Γ.length := fun i g' e => by
        by_cases hi : i < Γ.length
        · exact hi
        · rw [List.getElem?_append_right (by omega)] at e
          cases q : i - Γ.length with
          | zero => rw [q] at e; simp at e
          | succ n => rw [q] at e; simp at e
      have hi := l1 i _ e1
      have hj := l1 j _ e2
      rw [List.getElem?_append_left hi] at e1
      rw [List.getElem?_append_left hj] at e2
      rw [List.getElem?_append_left (by rw [a.len]; exact hi)] at e3
      rw [List.getElem?_append_left (by rw [a.len]; exact hj)] at e4
      exact a.sep i j v ds es e1 e2 e3 e4
  have := a1.setD (i := Γ.length) h hg (by simp)
  have e1 : (σ ++ [none]).set Γ.length (some v) = σ ++ [some v] := by rw [← a.len]; simp
  have e2 : (Γ ++ [none]).set Γ.length (some g) = Γ ++ [some g] := by simp
  rw [e1, e2] at this
  exact this
theorem At.none1 (a : At c σ H Γ) : At c (σ ++ [none]) H (Γ ++ [none]) := by
  have := a.pushD (v := .non) (g := .obj fun _ => True) True.intro (fun ds z => by cases z)
  refine this.sub (by simp [a.len]) fun i g e => ?_
  by_cases hi : i < Γ.length
  · rw [List.getElem?_append_left hi] at e
    exact ⟨by rw [List.getElem?_append_left hi]; exact e, by rw [List.getElem?_append_left (by rw [a.len]; exact hi), List.getElem?_append_left (by rw [a.len]; exact hi)]⟩
  · rw [List.getElem?_append_right (by omega)] at e
    cases q : i - Γ.length with
    | zero => rw [q] at e; simp at e
    | succ n => rw [q] at e; simp at e
theorem At.pushO (a : At c σ H Γ) {H0 : Hp} (a0 : At c σ H0 Γ) {x : Addr} {ds : List PyData} (h : GR c H (.ref x) (.own ds)) (hx : H0 x = none) : At c (σ ++ [some (.ref x)]) H (Γ ++ [some (.own ds)]) := by
  have := a.none1.setO a0.none1 (i := Γ.length) h hx (by simp)
  have e1 : (σ ++ [none]).set Γ.length (some (.ref x)) = σ ++ [some (.ref x)] := by rw [← a.len]; simp
  have e2 : (Γ ++ [none]).set Γ.length (some (.own ds)) = Γ ++ [some (.own ds)] := by simp
  rw [e1, e2] at this
  exact this
end

theorem wipe_in (σ : L2.St) {i : Nat} : ∀ {vs : List Nat}, i ∈ vs → (wipe σ vs)[i]? = if i < σ.length then some none else none
  | v :: vs, h => by
    unfold wipe
    by_cases e : v = i
    · subst e
      by_cases hl : v < σ.length
      · rw [if_pos hl, List.getElem?_set_self (by rw [wipe_length]; exact hl)]
      · rw [if_neg hl]
        exact List.getElem?_eq_none (by rw [List.length_set, wipe_length]; omega)
    · rw [List.getElem?_set_ne e]
      rcases List.mem_cons.mp h with z | z
      · exact absurd z.symm e
      · exact wipe_in σ z
theorem wipe_set {σ : L2.St} {j : Nat} {o : Option V} {vs : List Nat} (h : j ∈ vs) : wipe (σ.set j o) vs = wipe σ vs := by
  apply List.ext_getElem?
  intro i
  by_cases hi : i ∈ vs
  · rw [wipe_in _ hi, wipe_in _ hi, List.length_set]
  · rw [wipe_out hi, wipe_out hi, List.getElem?_set_ne]
    intro z
    subst z
    exact hi h

/-! ### targets -/
/-- a name, or a tuple of names -/
inductive Tgt where
  | nm (j : Nat)
  | tp (js : List Nat)
def Tgt.slots : Tgt → List Nat
  | .nm j => [j]
  | .tp js => js
def setsG : List Nat → List PyData → Gam → Option Gam
  | [], [], Γ => some Γ
  | j :: js, d :: ds, Γ => if j < Γ.length then setsG js ds (Γ.set j (some (.dat d))) else none
  | _, _, _ => none
def Tgt.go : Tgt → PyData → Gam → Option Gam
  | .nm j, d, Γ => setsG [j] [d] Γ
  | .tp js, .tuple ds, Γ => setsG js ds Γ
  | _, _, _ => none
def gNames : List Nat → TGs
  | [] => gNil
  | j :: js => gCons (gName j) (gNames js)
def Tgt.tg (K : PySem.W.Frag) : Tgt → TG
  | .nm j => gName j
  | .tp js => gTup K js.length (gNames js)
structure PGa (X : Cx) (c : Ctx) (e : Expr) (t : Tgt) : Prop where
  pg : PG X e (t.tg c.K)
section
variable {X : Cx} {c : Ctx} {pos : Pos}
theorem ag_name (j : Nat) {x : Str} (hN : X.N.Nodup) (hi : X.N[j]? = some x := by rfl) (hx : Loc X.env.scope x := by first | exact .inl rfl | exact .inr rfl) (hf : X.fn x = true ∨ X.env.scope.names.lookup x = some .local := by first | exact .inl rfl | exact .inr rfl | assumption) : PGa X c (.Name x pos) (.nm j) := ⟨pg_name hN hi hx hf⟩
structure PGsa (X : Cx) (es : List Expr) (js : List Nat) : Prop where
  pgs : PGs X es (gNames js)
theorem ags_nil : PGsa X [] [] := ⟨pgs_nil⟩
theorem ags_cons (j : Nat) {js : List Nat} {x : Str} {es : List Expr} (hN : X.N.Nodup) (h : PGsa X es js) (hi : X.N[j]? = some x := by rfl) (hx : Loc X.env.scope x := by first | exact .inl rfl | exact .inr rfl) (hf : X.fn x = true ∨ X.env.scope.names.lookup x = some .local := by first | exact .inl rfl | exact .inr rfl | assumption)
    (hs : (assignEach (.Name x pos :: es) X.env).map (·.2) = assign (.Name x pos) X.env :: (assignEach es X.env).map (·.2) := by rfl) : PGsa X (.Name x pos :: es) (j :: js) := ⟨pgs_cons (pg_name hN hi hx hf) h.pgs hs⟩
theorem ag_tup {es : List Expr} {js : List Nat} {k : Nat} (hc : X.calm = true) (h : PGsa X es js) (hn : (assignEach es X.env).length = js.length := by rfl) (hst : (assignEach es X.env).findIdx? (·.1) = none := by rfl) (hK : X.K = c.K := by rfl) : PGa X c (.Tuple es k pos) (.tp js) := ⟨by
  show PG X _ (gTup c.K js.length (gNames js))
  rw [← hK]
  exact pg_tup hc h.pgs hn hst⟩
theorem sets_run {H : Hp} {Q : L2.St → Hp → Prop} {τ : L2.St} {Δ : Gam} : ∀ (js : List Nat) (vs : List V) (ds : List PyData) (σ : L2.St) (Γ Γ' : Gam), DpAll c.K H vs ds → immAll ds = true → σ.length = Γ.length → At c (σ ++ τ) H (Γ ++ Δ) → setsG js ds Γ = some Γ' →
    (∀ σ', σ'.length = Γ'.length → At c (σ' ++ τ) H (Γ' ++ Δ) → (∀ vs, (∀ j ∈ js, j ∈ vs) → wipe σ' vs = wipe σ vs) → Q σ' H) → gNames js vs σ H Q
  | [], vs, ds, σ, Γ, Γ', h, hi, hl, at_, e, k => by
    cases ds with
    | nil =>
      cases h
      cases e
      exact ⟨rfl, k σ hl at_ fun _ _ => rfl⟩
    | cons d ds => cases e
  | j :: js, vs, ds, σ, Γ, Γ', h, hi, hl, at_, e, k => by
    cases ds with
    | nil => cases e
    | cons d ds =>
      cases h with
      | cons h1 h2 =>
        simp only [immAll, Bool.and_eq_true] at hi
        unfold setsG at e
        split at e
        · rename_i hj
          refine ⟨_, _, rfl, ?_⟩
          rename_i v vs
          have a2 : At c (σ.set j (some v) ++ τ) H (Γ.set j (some (.dat d)) ++ Δ) := by
            have := at_.setD (i := j) (v := v) (g := .dat d) ⟨h1, hi.1⟩ (fun ds z => by cases z) (by rw [List.length_append]; omega)
            rw [List.set_append_left _ _ (by omega), List.set_append_left _ _ hj] at this
            exact this
          refine sets_run js vs ds _ _ Γ' h2 hi.2 (by simp [hl]) a2 e fun σ' l' at' w' => k σ' l' at' fun us hu => ?_
          rw [w' us fun i hi => hu i (by simp [hi])]
          exact wipe_set (hu j (by simp))
        · cases e
theorem tgt_run {t : Tgt} {H : Hp} {Q : L2.St → Hp → Prop} {τ : L2.St} {Δ : Gam} {v : V} {d : PyData} {σ : L2.St} {Γ Γ' : Gam} (h : Dp c.K H v d) (hi : imm d = true) (hl : σ.length = Γ.length) (at_ : At c (σ ++ τ) H (Γ ++ Δ)) (e : t.go d Γ = some Γ')
    (k : ∀ σ', σ'.length = Γ'.length → At c (σ' ++ τ) H (Γ' ++ Δ) → (∀ vs, (∀ j ∈ t.slots, j ∈ vs) → wipe σ' vs = wipe σ vs) → Q σ' H) : t.tg c.K v σ H Q := by
  cases t with
  | nm j =>
    have := sets_run [j] [v] [d] σ Γ Γ' (.cons h .nil) (by simp [immAll, hi]) hl at_ e k
    obtain ⟨w, r, e1, q⟩ := this
    cases e1
    obtain ⟨_, q⟩ := q
    exact q
  | tp js =>
    cases d with
    | tuple ds =>
      cases h with
      | tup h1 h2 =>
        refine ⟨_, _, rfl, h1, ?_, sets_run js _ ds σ Γ Γ' h2 (by simpa [imm] using hi) hl at_ e k⟩
        rw [dpAll_length h2]
        have : ∀ (js : List Nat) (ds : List PyData) (Γ : Gam), setsG js ds Γ = some Γ' → ds.length = js.length := by
          intro js
          induction js with
          | nil =>
            intro ds Γ e
            cases ds with
            | nil => rfl
            | cons d ds => cases e
          | cons j js ih =>
            intro ds Γ e
            cases ds with
            | nil => cases e
            | cons d ds =>
              unfold setsG at e
              split at e
              · rw [List.length_cons, List.length_cons, ih ds _ e]
              · cases e
        exact this js ds Γ e
    | none => cases e
    | bool _ => cases e
    | int _ => cases e
    | str _ => cases e
    | list _ => cases e
    | dict _ => cases e
end
end Ab

namespace Ab
open PySem PySem.Spec PyProof.Rows L2

/-! ### what is walked -/
structure Yl (c : Ctx) (J : It) (Z : Hp → Prop) (items : List PyData) : Prop where
  go : ∀ i H, Z H → i < items.length → J.go i H
  stop : ∀ i H, Z H → items.length ≤ i → J.stop i H
  yld : ∀ i H x H', Z H → i < items.length → J.yld i H x H' → Fx [] H H' ∧ Z H' ∧ ∃ d, items[i]? = some d ∧ Dp c.K H' x d ∧ imm d = true
/-- what is walked stands in slots of its own, beyond the def's -/
def Ghost (c : Ctx) (σ : L2.St) (H H' : Hp) (Γ : Gam) (Z : Hp → Prop) : Prop := ∃ (τ : L2.St) (Δ : Gam),
  (∀ τ0 Δ0, At c (σ ++ τ0) H (Γ ++ Δ0) → At c (σ ++ τ0) H' (Γ ++ Δ0) → At c (σ ++ (τ0 ++ τ)) H' (Γ ++ (Δ0 ++ Δ))) ∧
  ∀ σ1 Γ1 H1, At c (σ1 ++ τ) H1 (Γ1 ++ Δ) → σ1.length = Γ1.length → Z H1
/-- Z stands while what stood at H' stands -/
def Stb (c : Ctx) (H' : Hp) (Z : Hp → Prop) : Prop := ∀ H2 H3, Z H2 → TEx H2 H3 → (∀ a o, a ∉ c.S → H' a ≠ none → H2 a = some o → H3 a = some o) → Z H3
abbrev XI := Gam → (List PyData → Bool → Prop) → Prop
def gI (c : Ctx) (A : XI) : TI := fun σ H R => ∃ Γ P, At c σ H Γ ∧ A Γ P ∧ ∀ J H' items gh Z, Fx c.S H H' → At c σ H' Γ → Z H' → Stb c H' Z → (gh = true → Ghost c σ H H' Γ Z) → Yl c J Z items → P items gh → R J H'
structure PIa (X : Cx) (c : Ctx) (tg e : Expr) (A : XI) : Prop where
  pi : PI X tg e (gI c A)
section
variable {X : Cx} {c : Ctx} {e a b tg : Expr} {es : List Expr} {A B : XE} {L : XA} {pos p : Pos}
theorem pi_imp {tg e : Expr} {t u : TI} (h : PI X tg e t) (w : ∀ σ H Q, u σ H Q → t σ H Q) : PI X tg e u := ⟨fun pins s σ H Q I hu => h.run pins s σ H Q I (w _ _ _ hu)⟩
theorem pi_or {tg e : Expr} {t u : TI} (h : PI X tg e t) (h' : PI X tg e u) : PI X tg e (fun σ H R => t σ H R ∨ u σ H R) := ⟨fun pins s σ H Q I hu => by
  rcases hu with hu | hu
  · exact h.run pins s σ H Q I hu
  · exact h'.run pins s σ H Q I hu⟩
def RV.gh : RV → Bool
  | .al _ => false
  | _ => true
/-- over a list, a tuple -/
def aISeq (A : XE) : XI := fun Γ P => A Γ fun r => ∃ ds, seqOf r = some ds ∧ P ds r.gh
/-- a list at a: as it stood when the walk began, tracked or written -/
def ZL (c : Ctx) (H' : Hp) (a : Addr) (ds : List PyData) (H : Hp) : Prop := (∃ vs, SqL c.K H a vs ∧ DpAll c.K H vs ds) ∧ (H' a = none → ∃ vs, (∀ H, SqL c.K H a vs) ∧ DpAll c.K H vs ds)
theorem yl_list {a : Addr} {H' : Hp} {ds : List PyData} (hi : immAll ds = true) : Yl c (Itl c.K a) (ZL c H' a ds) ds where
  go := fun i H ⟨⟨vs, h1, h2⟩, _⟩ hi => by
    have : i < vs.length := by rw [dpAll_length h2]; exact hi
    exact ⟨vs, vs[i], h1, List.getElem?_eq_getElem this⟩
  stop := fun i H ⟨⟨vs, h1, h2⟩, _⟩ hi => ⟨vs, h1, by rw [dpAll_length h2]; exact hi⟩
  yld := fun i H x H' ⟨⟨vs, h1, h2⟩, h3⟩ _ ⟨e, q⟩ => by
    subst e
    refine ⟨Fx.refl H', ⟨⟨vs, h1, h2⟩, h3⟩, ?_⟩
    obtain ⟨d, g1, g2⟩ := dpAll_getV h2 (q vs h1)
    exact ⟨d, g1, g2, immAll_get hi g1⟩
theorem stb_list {a : Addr} {H' : Hp} {ds : List PyData} (n : a ∉ c.S) (hi : immAll ds = true) : Stb c H' (ZL c H' a ds) := fun H2 H3 ⟨⟨vs, h1, h2⟩, h3⟩ t k => by
  refine ⟨?_, fun e => ?_⟩
  · by_cases e : H' a = none
    · obtain ⟨ws, g1, g2⟩ := h3 e
      exact ⟨ws, g1 H3, dpAll_mono t _ _ hi g2⟩
    · rcases h1 with (h1 | ⟨o, h1⟩) | h1
      · exact ⟨vs, .inl (.inl (k a _ n e h1)), dpAll_mono t _ _ hi h2⟩
      · exact ⟨vs, .inl (.inr ⟨o, k a _ n e h1⟩), dpAll_mono t _ _ hi h2⟩
      · exact ⟨vs, .inr h1, dpAll_mono t _ _ hi h2⟩
  · obtain ⟨ws, g1, g2⟩ := h3 e
    exact ⟨ws, g1, dpAll_mono t _ _ hi g2⟩
theorem zl_at {a : Addr} {H' H : Hp} {vs : List V} {ds : List PyData} (h1 : SqL c.K H' a vs) (h : SqL c.K H a vs) (h2 : DpAll c.K H vs ds) : ZL c H' a ds H := by
  refine ⟨⟨vs, h, h2⟩, fun e => ?_⟩
  rcases h1 with (h1 | ⟨o, h1⟩) | h1
  · rw [e] at h1; cases h1
  · rw [e] at h1; cases h1
  · exact ⟨vs, fun _ => .inr h1, h2⟩
theorem yl_tup {a : Addr} {ds : List PyData} (hi : immAll ds = true) : Yl c (Itt c.K a) (fun H => ∃ vs, SqT c.K H a vs ∧ DpAll c.K H vs ds) ds where
  go := fun i H ⟨vs, h1, h2⟩ hi => by
    have : i < vs.length := by rw [dpAll_length h2]; exact hi
    exact ⟨vs, vs[i], h1, List.getElem?_eq_getElem this⟩
  stop := fun i H ⟨vs, h1, h2⟩ hi => ⟨vs, h1, by rw [dpAll_length h2]; exact hi⟩
  yld := fun i H x H' ⟨vs, h1, h2⟩ _ ⟨e, q⟩ => by
    subst e
    refine ⟨Fx.refl H', ⟨vs, h1, h2⟩, ?_⟩
    obtain ⟨d, g1, g2⟩ := dpAll_getV h2 (q vs h1)
    exact ⟨d, g1, g2, immAll_get hi g1⟩
theorem slot_last {σ1 : L2.St} {Γ1 : Gam} {H1 : Hp} {o : Option V} {g : G} (a : At c (σ1 ++ [o]) H1 (Γ1 ++ [some g])) (hl : σ1.length = Γ1.length) : ∃ v, o = some v ∧ GR c H1 v g := by
  obtain ⟨v, h1, h2⟩ := a.slot Γ1.length g (by rw [List.getElem?_append_right (Nat.le_refl _)]; simp)
  rw [List.getElem?_append_right (by omega)] at h1
  rw [show Γ1.length - σ1.length = 0 by omega] at h1
  simp at h1
  exact ⟨v, h1, h2⟩
def iSeq (K : PySem.W.Frag) (tl : TE) : TI := fun σ H R => tl σ H fun x H1 => ∃ a, x = .ref a ∧ (((∃ xs, SqL K H1 a xs) ∧ R (Itl K a) H1) ∨ ((∃ xs, SqT K H1 a xs) ∧ R (Itt K a) H1))
theorem pi_seq {l : Expr} {tl : TE} (hl : PE X l tl) : PI X tg l (iSeq X.K tl) := by
  refine ⟨fun pins s σ H R I h => ?_⟩
  refine thn (hl.run pins s σ H _ I h) fun v s1 ⟨x, H1, I1, r1, q1⟩ => ?_
  obtain ⟨a, e, ⟨⟨xs, hq⟩, q⟩ | ⟨⟨xs, hq⟩, q⟩⟩ := q1
  · subst e
    cases r1
    obtain ⟨its, rv, p, hz⟩ := I1.list hq
    refine wpAny_pyIter_list p.isList ?_
    refine ⟨s1.heap.objs.size, [s1.heap.objs.size], _, _, H1, rfl, I1.kept (t' := s1.toks) fun b o e => Heap.get?_push_of_some _ e, turn_list a _, ⟨_, Heap.get?_push_size _ rfl, rfl, rfl⟩, fun b hb => ?_, q⟩
    have e : b = s1.heap.objs.size := by simpa using hb
    subst e
    exact I1.fpOk (Nat.le_refl _) (I1.hok.fresh (Nat.le_refl _))
  · subst e
    cases r1
    obtain ⟨its, rv, p, hz⟩ := I1.tuple hq
    refine wpAny_pyIter_tuple (show s1.heap.IsTuple a its.toArray from p) ?_
    refine ⟨s1.heap.objs.size, [s1.heap.objs.size], _, _, H1, rfl, I1.kept (t' := s1.toks) fun b o e => Heap.get?_push_of_some _ e, turn_tuple a _, ⟨_, Heap.get?_push_size _ rfl, rfl, rfl⟩, fun b hb => ?_, q⟩
    have e : b = s1.heap.objs.size := by simpa using hb
    subst e
    exact I1.fpOk (Nat.le_refl _) (I1.hok.fresh (Nat.le_refl _))
theorem app_assoc3 (a b d : L2.St) : a ++ (b ++ d) = (a ++ b) ++ d := (List.append_assoc a b d).symm
theorem ghost_dat {H H' : Hp} {σ : L2.St} {Γ : Gam} {v : V} {g : G} {Z : Hp → Prop} (h : GR c H' v g) (hg : ∀ ds, g ≠ .own ds) (hz : ∀ σ1 Γ1 H1, At c (σ1 ++ [some v]) H1 (Γ1 ++ [some g]) → σ1.length = Γ1.length → Z H1) : Ghost c σ H H' Γ Z :=
  ⟨[some v], [some g], fun τ0 Δ0 _ a => by
    rw [← List.append_assoc, ← List.append_assoc]
    exact a.pushD h hg, hz⟩
theorem ghost_own {H H' : Hp} {σ : L2.St} {Γ : Gam} {x : Addr} {ds : List PyData} {Z : Hp → Prop} (h : GR c H' (.ref x) (.own ds)) (hx : H x = none) (hz : ∀ σ1 Γ1 H1, At c (σ1 ++ [some (.ref x)]) H1 (Γ1 ++ [some (.own ds)]) → σ1.length = Γ1.length → Z H1) : Ghost c σ H H' Γ Z :=
  ⟨[some (.ref x)], [some (.own ds)], fun τ0 Δ0 a0 a => by
    rw [← List.append_assoc, ← List.append_assoc]
    exact a.pushO a0 h hx, hz⟩
theorem ai_seq (ha : PEa X c e A) (hK : X.K = c.K := by rfl) : PIa X c tg e (aISeq A) := ⟨pi_imp (pi_seq ha.pe) fun σ H R ⟨Γ, P, at_, p, k⟩ => by
  rw [hK]
  refine ⟨Γ, _, at_, p, fun v H1 r f1 at1 r1 ⟨ds, es, q⟩ => ?_⟩
  cases r with
  | dat d =>
    cases d with
    | tuple xs =>
      cases es
      obtain ⟨a, vs, rfl, t1, d1, i1⟩ := r1.ro.tup
      refine ⟨a, rfl, .inr ⟨⟨vs, t1⟩, k _ H1 ds true _ f1 at1 ⟨vs, t1, d1⟩ (fun H2 H3 ⟨ws, h1, h2⟩ f _ => ⟨ws, sqT_keep f h1, dpAll_mono f _ _ i1 h2⟩) (fun _ => ghost_dat (v := .ref a) (g := .dat (.tuple ds)) r1 (fun ds z => by cases z) fun σ1 Γ1 H2 a2 hl => ?_) (yl_tup i1) q⟩⟩
      obtain ⟨w, e1, e2⟩ := slot_last a2 hl
      cases e1
      obtain ⟨a', vs', e3, t2, d2, _⟩ := RO.tup (c := c) (H := H2) ⟨H2, e2⟩
      cases e3
      exact ⟨vs', t2, d2⟩
    | none => cases es
    | bool _ => cases es
    | int _ => cases es
    | str _ => cases es
    | list _ => cases es
    | dict _ => cases es
  | new xs =>
    cases es
    obtain ⟨a, vs, rfl, h1, h2, h3, d1, i1⟩ := r1
    refine ⟨a, rfl, .inl ⟨⟨vs, SqL.of h3⟩, k _ H1 ds true (ZL c H1 a ds) f1 at1 (zl_at (SqL.of h3) (SqL.of h3) d1) (stb_list h2 i1) (fun _ => ghost_own (x := a) (ds := ds) ⟨a, vs, rfl, (at_.fresh h1).2, h2, h3, d1, i1⟩ h1 fun σ1 Γ1 H2 a2 hl => ?_) (yl_list i1) q⟩⟩
    obtain ⟨w, e1, a', vs', e3, _, _, h4, h5, _⟩ := slot_last a2 hl
    cases e1
    cases e3
    exact ⟨⟨vs', SqL.of h4, h5⟩, fun z => by rw [h3] at z; cases z⟩
  | vw xs =>
    cases es
    obtain ⟨a, vs, rfl, h2, h0, h3, d1, i1⟩ := r1
    refine ⟨a, rfl, .inl ⟨⟨vs, h3⟩, k _ H1 ds true (ZL c H1 a ds) f1 at1 (zl_at h3 h3 d1) (stb_list h2 i1) (fun _ => ghost_dat (v := .ref a) (g := .vw ds) ⟨a, vs, rfl, h2, h0, d1, i1⟩ (fun ds z => by cases z) fun σ1 Γ1 H2 a2 hl => ?_) (yl_list i1) q⟩⟩
    obtain ⟨w, e1, a', vs', e3, h4, h5, h6, _⟩ := slot_last a2 hl
    cases e1
    cases e3
    exact zl_at (sqL_keep at1.kp h4 h5) (sqL_keep a2.kp h4 h5) h6
  | al xs =>
    cases es
    obtain ⟨a, vs, rfl, h2, h3, d1, i1⟩ := r1
    exact ⟨a, rfl, .inl ⟨⟨vs, h3⟩, k _ H1 ds false (ZL c H1 a ds) f1 at1 (zl_at h3 h3 d1) (stb_list h2 i1) (fun z => by cases z) (yl_list i1) q⟩⟩
  | obj p => cases es⟩
/-- over a range -/
theorem yl_rng (i j : Int) : Yl c (Itr i (j - i).toNat) (fun _ => True) (rangeD i j) where
  go := fun k H _ hk => by
    unfold rangeD at hk
    rw [List.length_map, List.length_range] at hk
    exact hk
  stop := fun k H _ hk => by
    unfold rangeD at hk
    rw [List.length_map, List.length_range] at hk
    exact hk
  yld := fun k H x H' _ hk ⟨e1, e2⟩ => by
    subst e1 e2
    refine ⟨Fx.refl H', True.intro, .int (i + (k : Nat)), ?_, .int _, rfl⟩
    unfold rangeD at hk ⊢
    rw [List.length_map, List.length_range] at hk
    rw [List.getElem?_map, List.getElem?_range hk]
    rfl
theorem ghost_nil {H H' : Hp} {σ : L2.St} {Γ : Gam} : Ghost c σ H H' Γ (fun _ => True) := ⟨[], [], fun τ0 Δ0 _ a => by simpa using a, fun _ _ _ _ _ => True.intro⟩
def aIR1 (A : XE) : XI := fun Γ P => A Γ fun x => ∃ j, x = .dat (.int j) ∧ -(2 ^ 62) ≤ j ∧ j < 2 ^ 62 ∧ P (rangeD 0 j) true
def aIR2 (A B : XE) : XI := fun Γ P => A Γ fun x => B Γ fun y => ∃ i j, x = .dat (.int i) ∧ y = .dat (.int j) ∧ -(2 ^ 62) ≤ i ∧ i < 2 ^ 62 ∧ -(2 ^ 62) ≤ j ∧ j < 2 ^ 62 ∧ P (rangeD i j) true
theorem ai_r1 (hg : Gl X "range") (hm : X.mg "range" = none) (ha : PEa X c a A) (hs : starEach [a] X.env = [(false, eval a X.env)] := by rfl) (h0 : starEach ([] : List Expr) X.env = [] := by rfl) : PIa X c tg (.Call (.Name "range" p) [a] [] pos) (aIR1 A) :=
  ⟨pi_imp (pi_range1 hg hm (pa_cons ha.pe pa_nil (by rw [hs, h0])) hs) fun σ H R ⟨Γ, P, at_, p, k⟩ => by
    refine ⟨Γ, _, at_, p, fun v H1 r f1 at1 r1 ⟨j, e, h1, h2, q⟩ => ?_⟩
    subst e
    cases r1.ro.int
    refine ⟨j, rfl, h1, h2, ?_⟩
    have := k (Itr 0 (j - 0).toNat) H1 (rangeD 0 j) true (fun _ => True) f1 at1 True.intro (fun _ _ _ _ _ => True.intro) (fun _ => ghost_nil) (yl_rng 0 j) q
    rw [Int.sub_zero] at this
    exact this⟩
theorem ai_r2 (hg : Gl X "range") (hm : X.mg "range" = none) (ha : PEa X c a A) (hb : PEa X c b B) (hs : starEach [a, b] X.env = [(false, eval a X.env), (false, eval b X.env)] := by rfl) (hs2 : starEach [b] X.env = [(false, eval b X.env)] := by rfl) (h0 : starEach ([] : List Expr) X.env = [] := by rfl) :
    PIa X c tg (.Call (.Name "range" p) [a, b] [] pos) (aIR2 A B) :=
  ⟨pi_imp (pi_range2 hg hm (pa_cons ha.pe (pa_cons hb.pe pa_nil (by rw [hs2, h0])) (by rw [hs, hs2])) hs hs2) fun σ H R ⟨Γ, P, at_, p, k⟩ => by
    refine ⟨Γ, _, at_, p, fun v H1 r f1 at1 r1 q1 => ⟨Γ, _, at1, q1, fun u H2 r' f2 at2 r2 ⟨i, j, e, e', h1, h2, h3, h4, q⟩ => ?_⟩⟩
    subst e e'
    cases r1.ro.int
    cases r2.ro.int
    exact ⟨i, j, rfl, ⟨h1, h2, h3, h4⟩, k _ H2 (rangeD i j) true (fun _ => True) (f1.trans f2) at2 True.intro (fun _ _ _ _ _ => True.intro) (fun _ => ghost_nil) (yl_rng i j) q⟩⟩

/-! ### list comprehensions -/
structure PTsa (X : Cx) (c : Ctx) (ifs : List Expr) (A : XT) : Prop where
  pts : PTs X ifs (gT c A)
theorem pts_imp {ifs : List Expr} {t u : TT} (h : PTs X ifs t) (w : ∀ σ H Q, u σ H Q → t σ H Q) : PTs X ifs u := ⟨fun pins s σ H Q I hu => h.run pins s σ H Q I (w _ _ _ hu)⟩
def aYes : XT := fun _ P => P true
theorem ats_nil : PTsa X c [] aYes := ⟨pts_imp pts_nil fun σ H Q ⟨Γ, P, at_, p, k⟩ => k true H (Fx.refl H) at_ p⟩
theorem ats_one {T : XT} (h : PTa X c a T) : PTsa X c [a] T := ⟨pts_one h.pt⟩
def wipeG (Γ : Gam) : List Nat → Gam
  | [] => Γ
  | v :: vs => (wipeG Γ vs).set v none
theorem wipeG_len (Γ : Gam) : ∀ vs : List Nat, (wipeG Γ vs).length = Γ.length
  | [] => rfl
  | v :: vs => by unfold wipeG; rw [List.length_set, wipeG_len Γ vs]
theorem wipeG_some {Γ : Gam} {i : Nat} {g : G} : ∀ {vs : List Nat}, (wipeG Γ vs)[i]? = some (some g) → Γ[i]? = some (some g) ∧ i ∉ vs
  | [], h => ⟨h, by simp⟩
  | v :: vs, h => by
    unfold wipeG at h
    by_cases hi : v = i
    · subst hi
      by_cases hl : v < (wipeG Γ vs).length
      · rw [List.getElem?_set_self hl] at h; cases h
      · rw [List.getElem?_eq_none (by rw [List.length_set]; omega)] at h; cases h
    · rw [List.getElem?_set_ne hi] at h
      obtain ⟨h1, h2⟩ := wipeG_some h
      exact ⟨h1, by simp [Ne.symm hi, h2]⟩
theorem At.wipe {σ : L2.St} {H : Hp} {Γ : Gam} (a : At c σ H Γ) (vs : List Nat) : At c (wipe σ vs) H (wipeG Γ vs) := a.sub (by rw [wipe_length, wipeG_len]; exact a.len) fun i g e => by
  obtain ⟨h1, h2⟩ := wipeG_some e
  exact ⟨h1, wipe_out h2⟩
def aLc (I : XI) (t : Tgt) (T : XT) (E : XE) (vs : List Nat) : XE := fun Γ P => I Γ fun items _ => ∃ Iv : Nat → List PyData → Prop, Iv 0 [] ∧
  (∀ (i : Nat) d, items[i]? = some d → ∀ acc, Iv i acc → ∃ Γ2, t.go d (wipeG Γ vs) = some Γ2 ∧ T Γ2 fun b => if b = true then E Γ2 fun r => ∃ y, r = .dat y ∧ acc.length < sizeLine ∧ Iv (i + 1) (acc ++ [y]) else Iv (i + 1) acc) ∧
  ∀ acc, Iv items.length acc → P (.new acc)
/-- no slot holds D -/
def NoSlot (σ : L2.St) (Γ : Gam) (D : Addr) : Prop := ∀ (j : Nat) ds, Γ[j]? = some (some (.own ds)) → σ[j]? ≠ some (some (.ref D))
theorem wipe_wipe (σ : L2.St) (vs : List Nat) : wipe (wipe σ vs) vs = wipe σ vs := by
  apply List.ext_getElem?
  intro i
  by_cases hi : i ∈ vs
  · rw [wipe_in _ hi, wipe_in _ hi, wipe_length]
  · rw [wipe_out hi]
/-- the state between two turns of a comprehension: D the new list, H1 the heap at its start -/
structure LcSt (c : Ctx) (σ : L2.St) (Γ : Gam) (Z : Hp → Prop) (H1 : Hp) (D : Addr) (ds : List PyData) (H : Hp) : Prop where
  lst : ∃ acc, H D = some (.lst acc) ∧ DpAll c.K H acc ds ∧ immAll ds = true
  at_ : At c σ H Γ
  z : Z H
  kp : ∀ a o, a ∉ c.S → a ≠ D → H1 a = some o → H a = some o
  tx : TEx H1 H
theorem LcSt.fx {σ : L2.St} {Γ : Gam} {Z : Hp → Prop} {H1 H H' : Hp} {D : Addr} {ds : List PyData} (h : LcSt c σ Γ Z H1 D ds H) (n : D ∉ c.S) (zs : Stb c H1 Z) (f : Fx c.S H H') (j : c.J H') : LcSt c σ Γ Z H1 D ds H' := by
  obtain ⟨⟨acc, h1, h2, h3⟩, h4, h5, h6, h7⟩ := h
  exact ⟨⟨acc, f.keep _ _ n h1, dpAll_mono f.tup _ _ h3 h2, h3⟩, h4.grow f j, zs _ _ h5 f.tup fun a o na _ e => f.keep a o na e, fun a o na nd e => f.keep a o na (h6 a o na nd e), fun a xs r => f.tup a xs (h7 a xs r)⟩
theorem lc_imp {I : XI} {t : Tgt} {T : XT} {E : XE} {vs : List Nat} (ht : ∀ j ∈ t.slots, j ∈ vs) (σ : L2.St) (H : Hp) (Q : VK) (h : gE c (aLc I t T E vs) σ H Q) :
    tLc (gI c I) (t.tg c.K) (gT c T) (gE c E) vs σ H Q := by
  obtain ⟨Γ, P, at_, p, k⟩ := h
  refine ⟨Γ, _, at_, p, fun J H1 items gh Z f1 at1 z1 zs _ yl ⟨Iv, i0, istep, iend⟩ D hD => ?_⟩
  have fr := at1.fresh hD
  have noD : NoSlot σ Γ D := fun j ds e1 e2 => by
    obtain ⟨v, g1, x, ws, g2, _, _, g3, _⟩ := at1.slot j _ e1
    rw [e2] at g1
    cases g1
    cases g2
    rw [hD] at g3
    cases g3
  have f0 : Fx c.S H1 (upd H1 D (.lst [])) := Fx.new hD
  refine ⟨fun i m H' => m = items.length - i ∧ i ≤ items.length ∧ ∃ ds, Iv i ds ∧ LcSt c σ Γ Z H1 D ds H', ⟨items.length, by omega, by omega, [], i0, ⟨[], upd_same, .nil, rfl⟩, at1.new hD, zs _ _ z1 f0.tup fun a o n _ e => f0.keep a o n e, fun a o _ n e => by rw [upd_ne n]; exact e, f0.tup⟩, ?_⟩
  rintro i m H2 ⟨rfl, hi, ds, iv, L2_⟩
  by_cases hlt : i < items.length
  · refine .inr ⟨yl.go i H2 L2_.z hlt, fun H' => ∃ ds, Iv (i + 1) ds ∧ LcSt c σ Γ Z H1 D ds H', fun H' hN => ⟨items.length - (i + 1), by omega, rfl, hlt, hN⟩, fun x H3 hy => ?_⟩
    obtain ⟨f3, z3, d, hd, dp3, id3⟩ := yl.yld i H2 x H3 L2_.z hlt hy
    have L3 : LcSt c σ Γ Z H1 D ds H3 := L2_.fx fr.1 zs f3.nil (L2_.at_.ext f3).J
    obtain ⟨Γ2, et, q⟩ := istep i d hd ds iv
    have atw : At c (wipe σ vs ++ []) H3 (wipeG Γ vs ++ []) := by
      rw [List.append_nil, List.append_nil]
      exact L3.at_.wipe vs
    refine tgt_run (τ := []) (Δ := []) dp3 id3 (by rw [wipe_length, wipeG_len]; exact at_.len) atw et fun σ4 hl4 at4 w4 => ?_
    rw [List.append_nil, List.append_nil] at at4
    refine ⟨by rw [w4 vs ht, wipe_wipe], Γ2, _, at4, q, fun b H5 f5 at5 q5 => ?_⟩
    have L5 : LcSt c σ Γ Z H1 D ds H5 := L3.fx fr.1 zs f5 at5.J
    cases b with
    | false => exact ⟨ds, q5, L5⟩
    | true =>
      refine ⟨Γ2, _, at5, q5, fun y H6 r f6 at6 r6 ⟨yd, er, hz, iv'⟩ => ?_⟩
      subst er
      obtain ⟨⟨acc, hacc, dacc, iacc⟩, at6', z6, kp6, tx6⟩ := L5.fx fr.1 zs f6 at6.J
      have t6 : TEx H6 (upd H6 D (.lst (acc ++ [y]))) := tex_lst hacc
      refine ⟨acc, hacc, by rw [dpAll_length dacc]; exact hz, ds ++ [yd], iv', ⟨acc ++ [y], upd_same, dpAll_append (dpAll_mono t6 _ _ iacc dacc) (.cons (dp_mono t6 _ _ r6.2 r6.1) .nil), by simp [immAll_append, iacc, immAll, r6.2]⟩, at6'.other fr.2 hacc noD, zs _ _ z6 t6 fun a o n h1 e => ?_, fun a o n nd e => by rw [upd_ne nd]; exact kp6 a o n nd e, fun a xs r => t6 a xs (tx6 a xs r)⟩
      rw [upd_ne fun z => h1 (by rw [z]; exact hD)]
      exact e
  · have e : i = items.length := by omega
    subst e
    refine .inl ⟨yl.stop _ H2 L2_.z (Nat.le_refl _), ?_⟩
    obtain ⟨⟨acc, hacc, dacc, iacc⟩, at2, z2, kp2, tx2⟩ := L2_
    have f2 : Fx c.S H H2 := ⟨fun a o n e => kp2 a o n (ne_of_none (f1.keep a o n e) hD) (f1.keep a o n e), fun a xs r => tx2 a xs (f1.tup a xs r)⟩
    exact k (.ref D) H2 (.new ds) f2 at2 (rr_new (f1.free fr.1 hD) fr.1 hacc dacc iacc) (iend ds iv)
theorem ae_lc {elt : Expr} {iter : Expr} {ifs : List Expr} {scope : Scope} {own : List (Str × Nat)} {I : XI} {t : Tgt} {T : XT} {E : XE} (hc : X.calm = true) (hN : X.N.Nodup) (hi : PIa X c tg iter I) (ok : BlkOk X.N X.env.scope scope own)
    (hg : ∀ (s : Shared) (H : Hp) (C : Addr) (cl : List (Str × Addr)) (fp : List Addr), PGa (X.blk s H scope (compEnvC scope cl C X.env) fp) c tg t) (ht : ∀ (s : Shared) (H : Hp) (C : Addr) (cl : List (Str × Addr)) (fp : List Addr), PTsa (X.blk s H scope (compEnvC scope cl C X.env) fp) c ifs T)
    (he : ∀ (s : Shared) (H : Hp) (C : Addr) (cl : List (Str × Addr)) (fp : List Addr), PEa (X.blk s H scope (compEnvC scope cl C X.env) fp) c elt E) (hs : ∀ x, foldedSetIterable iter X.env x = pure x := by intro _; rfl) (hv : ∀ j ∈ t.slots, j ∈ own.map (·.2) := by decide) :
    PEa X c (.ListComp elt [⟨tg, iter, ifs, 0⟩] scope pos) (aLc I t T E (own.map (·.2))) :=
  ⟨pe_imp (pe_lc hc hN hi.pi ok (fun s H C cl fp => (hg s H C cl fp).pg) (fun s H C cl fp => (ht s H C cl fp).pts) (fun s H C cl fp => (he s H C cl fp).pe) hs) (lc_imp hv)⟩
end
end Ab

namespace Ab
open PySem PySem.Spec PyProof.Rows L2

/-! ### statements: the ends with what stands beside (τ, Δ) -/
structure EndsG (c : Ctx) (τ : L2.St) (Δ : Gam) (D : AD) (E : Ends) : Prop where
  nx : ∀ Γ σ H, D.nx Γ → σ.length = Γ.length → At c (σ ++ τ) H (Γ ++ Δ) → E.nx σ H
  bk : ∀ Γ σ H, D.bk Γ → σ.length = Γ.length → At c (σ ++ τ) H (Γ ++ Δ) → E.bk σ H
  ct : ∀ Γ σ H, D.ct Γ → σ.length = Γ.length → At c (σ ++ τ) H (Γ ++ Δ) → E.ct σ H
  rt : ∀ v H r, Fx c.S c.H0 H → c.J H → RR c c.H0 H v r → D.rt r → E.rt v H
def gSt (c : Ctx) (A : XS) : TS := fun E σ H => ∃ Γ Δ τ D, σ.length = Γ.length ∧ At c (σ ++ τ) H (Γ ++ Δ) ∧ A D Γ ∧ EndsG c τ Δ D E
structure PSt (X : Cx) (c : Ctx) (s : Stmt) (A : XS) : Prop where
  ps : PS X s (gSt c A)
structure PSts (X : Cx) (c : Ctx) (s : List Stmt) (A : XS) : Prop where
  ps : PSs X s (gSt c A)
section
variable {X : Cx} {c : Ctx} {e a b tg : Expr} {A B : XE} {T : XT} {pos p : Pos} {S U : XS} {st : Stmt} {rest : List Stmt}
/-- an expression within a statement -/
theorem gE_st {σ τ : L2.St} {Γ Δ : Gam} {H : Hp} {P : RV → Prop} {Q : VK} (hl : σ.length = Γ.length) (at_ : At c (σ ++ τ) H (Γ ++ Δ)) (h : A Γ P) (k : ∀ v H' r, Fx c.S H H' → At c (σ ++ τ) H' (Γ ++ Δ) → RR c H H' v r → P r → Q v H') : gE c A σ H Q :=
  ⟨Γ, P, at_.left hl, h, fun v H' r f a r1 p => k v H' r f (at_.grow f a.J) r1 p⟩
theorem gT_st {σ τ : L2.St} {Γ Δ : Gam} {H : Hp} {P : Bool → Prop} {Q : Bool → Hp → Prop} (hl : σ.length = Γ.length) (at_ : At c (σ ++ τ) H (Γ ++ Δ)) (h : T Γ P) (k : ∀ b H', Fx c.S H H' → At c (σ ++ τ) H' (Γ ++ Δ) → P b → Q b H') : gT c T σ H Q :=
  ⟨Γ, P, at_.left hl, h, fun b H' f a p => k b H' f (at_.grow f a.J) p⟩
def sNil : XS := fun D Γ => D.nx Γ
def sSeq (S U : XS) : XS := fun D Γ => S { D with nx := fun Γ' => U D Γ' } Γ
theorem ss_nil : PSts X c [] sNil := ⟨pss_imp pss_nil fun E σ H ⟨Γ, Δ, τ, D, hl, at_, p, k⟩ => k.nx Γ σ H p hl at_⟩
theorem ss_cons (h1 : PSt X c st S) (h2 : PSts X c rest U) : PSts X c (st :: rest) (sSeq S U) := ⟨pss_imp (pss_cons h1.ps h2.ps) fun E σ H ⟨Γ, Δ, τ, D, hl, at_, p, k⟩ =>
  ⟨Γ, Δ, τ, _, hl, at_, p, ⟨fun Γ' σ' H' p' hl' a' => ⟨Γ', Δ, τ, D, hl', a', p', k⟩, k.bk, k.ct, k.rt⟩⟩⟩
theorem ss_one (h1 : PSt X c st S) : PSts X c [st] S := ⟨pss_one h1.ps⟩
def sRet (A : XE) : XS := fun D Γ => A Γ D.rt
theorem st_ret (ha : PEa X c e A) : PSt X c (.Return (some e) pos) (sRet A) := ⟨ps_imp (ps_ret ha.pe) fun E σ H ⟨Γ, Δ, τ, D, hl, at_, p, k⟩ =>
  gE_st hl at_ p fun v H' r f a r1 q => k.rt v H' r a.kp a.J (r1.back at_.kp) q⟩
def sRetN : XS := fun D Γ => D.rt (.dat .none)
theorem st_retN : PSt X c (.Return none pos) sRetN := ⟨ps_imp ps_retN fun E σ H ⟨Γ, Δ, τ, D, hl, at_, p, k⟩ => k.rt .non H _ at_.kp at_.J rr_non p⟩
def sDrop (A : XE) : XS := fun D Γ => A Γ fun _ => D.nx Γ
theorem st_expr (ha : PEa X c e A) (hs : swapsWith e none pos.line X.env = pure false := by rfl) : PSt X c (.Expr e pos) (sDrop A) := ⟨ps_imp (ps_expr ha.pe hs) fun E σ H ⟨Γ, Δ, τ, D, hl, at_, p, k⟩ =>
  gE_st hl at_ p fun v H' r f a r1 q => k.nx Γ σ H' q hl a⟩
theorem st_pass : PSt X c (.Pass pos) sNil := ⟨ps_imp ps_pass fun E σ H ⟨Γ, Δ, τ, D, hl, at_, p, k⟩ => k.nx Γ σ H p hl at_⟩
def sBrk : XS := fun D Γ => D.bk Γ
def sCnt : XS := fun D Γ => D.ct Γ
theorem st_break : PSt X c (.Break pos) sBrk := ⟨ps_imp ps_break fun E σ H ⟨Γ, Δ, τ, D, hl, at_, p, k⟩ => k.bk Γ σ H p hl at_⟩
theorem st_continue : PSt X c (.Continue pos) sCnt := ⟨ps_imp ps_continue fun E σ H ⟨Γ, Δ, τ, D, hl, at_, p, k⟩ => k.ct Γ σ H p hl at_⟩
def sNever : XS := fun _ _ => False
theorem st_never {s : Stmt} : PSt X c s sNever := ⟨ps_imp ps_never fun E σ H ⟨Γ, Δ, τ, D, hl, at_, p, k⟩ => p⟩
def sIf (T : XT) (S U : XS) : XS := fun D Γ => T Γ fun b => if b = true then S D Γ else U D Γ
theorem st_if {body orelse : List Stmt} (ht : PTa X c e T) (h1 : PSts X c body S) (h2 : PSts X c orelse U) : PSt X c (.If e body orelse pos) (sIf T S U) := ⟨ps_imp (ps_if ht.pt h1.ps h2.ps) fun E σ H ⟨Γ, Δ, τ, D, hl, at_, p, k⟩ =>
  gT_st hl at_ p fun b H' f a q => by
    cases b with
    | true => exact ⟨Γ, Δ, τ, D, hl, a, q, k⟩
    | false => exact ⟨Γ, Δ, τ, D, hl, a, q, k⟩⟩
/-- what a slot holds of a result -/
def RV.slot : RV → Option G
  | .dat d => some (.dat d)
  | .new ds => some (.own ds)
  | .vw ds => some (.vw ds)
  | .obj p => some (.obj p)
  | .al _ => none
theorem store_at {σ τ : L2.St} {Γ Δ : Gam} {H H' : Hp} {v : V} {r : RV} {g : G} {i : Nat} (a0 : At c (σ ++ τ) H (Γ ++ Δ)) (a : At c (σ ++ τ) H' (Γ ++ Δ)) (hl : σ.length = Γ.length) (hr : RR c H H' v r) (hg : r.slot = some g) (hi : i < Γ.length) :
    At c (σ.set i (some v) ++ τ) H' (Γ.set i (some g) ++ Δ) := by
  have hi2 : i < (Γ ++ Δ).length := by rw [List.length_append]; omega
  have e1 : (σ ++ τ).set i (some v) = σ.set i (some v) ++ τ := List.set_append_left _ _ (by omega)
  have e2 : (Γ ++ Δ).set i (some g) = Γ.set i (some g) ++ Δ := List.set_append_left _ _ hi
  rw [← e1, ← e2]
  cases r with
  | dat d => cases hg; exact a.setD hr (fun ds z => by cases z) hi2
  | new ds =>
    cases hg
    obtain ⟨x, vs, rfl, h1, h2, h3, h4, h5⟩ := hr
    exact a.setO a0 ⟨x, vs, rfl, (a0.fresh h1).2, h2, h3, h4, h5⟩ h1 hi2
  | vw ds =>
    cases hg
    obtain ⟨x, vs, rfl, h2, h0, h3, h4, h5⟩ := hr
    exact a.setD ⟨x, vs, rfl, h2, h0, h4, h5⟩ (fun ds z => by cases z) hi2
  | obj q => cases hg; exact a.setD (g := .obj q) hr (fun ds z => by cases z) hi2
  | al ds => cases hg
def sSet (i : Nat) (A : XE) : XS := fun D Γ => A Γ fun r => ∃ g, r.slot = some g ∧ i < Γ.length ∧ D.nx (Γ.set i (some g))
theorem st_set (i : Nat) {x : Str} {pos' : Pos} (hN : X.N.Nodup) (ha : PEa X c e A) (hi : X.N[i]? = some x := by rfl) (hx : Loc X.env.scope x := by first | exact .inl rfl | exact .inr rfl) (hs : swapsWith e (some (.Name x pos')) pos.line X.env = pure false := by rfl)
    (hf : X.fn x = true ∨ X.env.scope.names.lookup x = some .local := by first | exact .inl rfl | exact .inr rfl | assumption) : PSt X c (.Assign [.Name x pos'] e pos) (sSet i A) :=
  ⟨ps_imp (ps_set (i := i) hN hi hx ha.pe hs hf) fun E σ H ⟨Γ, Δ, τ, D, hl, at_, p, k⟩ =>
    gE_st hl at_ p fun v H' r f a r1 ⟨g, hg, hi, q⟩ => k.nx _ _ H' q (by simp [hl]) (store_at at_ a hl r1 hg hi)⟩
/-- name = [..] on one line -/
theorem st_setLc (i : Nat) {y : Str} {py spos : Pos} {elt iter : Expr} {ifs : List Expr} {scope : Scope} {own : List (Str × Nat)} {I : XI} {t : Tgt} {T : XT} {E : XE} (hc : X.calm = true) (hN : X.N.Nodup) (hi : PIa X c tg iter I) (ok : BlkOk X.N X.env.scope scope own)
    (hg : ∀ (s : Shared) (H : Hp) (C : Addr) (cl : List (Str × Addr)) (fp : List Addr), PGa (X.blk s H scope (compEnvC scope cl C X.env) fp) c tg t) (ht : ∀ (s : Shared) (H : Hp) (C : Addr) (cl : List (Str × Addr)) (fp : List Addr), PTsa (X.blk s H scope (compEnvC scope cl C X.env) fp) c ifs T)
    (he : ∀ (s : Shared) (H : Hp) (C : Addr) (cl : List (Str × Addr)) (fp : List Addr), PEa (X.blk s H scope (compEnvC scope cl C X.env) fp) c elt E) (hv : ∀ j ∈ t.slots, j ∈ own.map (·.2) := by decide) (hy : X.N[i]? = some y := by rfl) (hyl : X.env.scope.names.lookup y = some .local := by rfl)
    (hsw : swapsWith (.ListComp elt [⟨tg, iter, ifs, 0⟩] scope pos) (some (.Name y py)) spos.line X.env = pure true := by exact sw_true rfl rfl rfl (by decide +kernel)) (hs : ∀ x, foldedSetIterable iter X.env x = pure x := by intro _; rfl) :
    PSt X c (.Assign [.Name y py] (.ListComp elt [⟨tg, iter, ifs, 0⟩] scope pos) spos) (sSet i (aLc I t T E (own.map (·.2)))) :=
  ⟨ps_imp (ps_setLc (i := i) hc hN hy hyl hsw hi.pi ok (fun s H C cl fp => (hg s H C cl fp).pg) (fun s H C cl fp => (ht s H C cl fp).pts) (fun s H C cl fp => (he s H C cl fp).pe) hs) fun E' σ H ⟨Γ, Δ, τ, D, hl, at_, p, k⟩ =>
    lc_imp hv σ H _ (gE_st hl at_ p fun v H' r f a r1 ⟨g, hg, hi, q⟩ => k.nx _ _ H' q (by simp [hl]) (store_at at_ a hl r1 hg hi))⟩
/-- targets of an assignment: a tuple of names -/
def sAsgT (t : Tgt) (A : XE) : XS := fun D Γ => A Γ fun r => ∃ d Γ', r = .dat d ∧ t.go d Γ = some Γ' ∧ D.nx Γ'
theorem st_asgT {t : Tgt} (ha : PEa X c e A) (hg : PGa X c tg t) (hs : swapsWithSole [tg] e pos.line X.env = pure false := by rfl) (hw : swappedStores [tg] e X.env = pure none := by rfl) (h1 : (assignEach [tg] X.env).map (·.2) = [assign tg X.env] := by rfl) : PSt X c (.Assign [tg] e pos) (sAsgT t A) :=
  ⟨ps_imp (ps_asg ha.pe hg.pg hs hw h1) fun E σ H ⟨Γ, Δ, τ, D, hl, at_, p, k⟩ =>
    gE_st hl at_ p fun v H' r f a r1 ⟨d, Γ', er, eg, q⟩ => by
      subst er
      exact tgt_run r1.1 r1.2 hl a eg fun σ' hl' a' _ => k.nx Γ' σ' H' q hl' a'⟩
/-- a, b = x, y -/
def sPar (i j : Nat) (A B : XE) : XS := fun D Γ => A Γ fun x => B Γ fun y => ∃ d e, x = .dat d ∧ y = .dat e ∧ i < Γ.length ∧ j < Γ.length ∧ D.nx ((Γ.set i (some (.dat d))).set j (some (.dat e)))
theorem st_par (i j : Nat) {x y : Str} {px py pt : Pos} {kt k2 pt2} (hc : X.calm = true) (hN : X.N.Nodup) (ha : PEa X c a A) (hb : PEa X c b B) (hw : swappedStores [.Tuple [.Name x px, .Name y py] kt pt] (.Tuple [a, b] k2 pt2) X.env = pure (some [x, y]) := by rfl) (hi : X.N[i]? = some x := by rfl) (hj : X.N[j]? = some y := by rfl) (hij : i ≠ j := by decide)
    (hx : X.env.scope.names.lookup x = some .local := by rfl) (hy : X.env.scope.names.lookup y = some .local := by rfl) (hs1 : starEach [a, b] X.env = (false, eval a X.env) :: starEach [b] X.env := by rfl) (hs2 : starEach [b] X.env = (false, eval b X.env) :: starEach [] X.env := by rfl)
    (hs : swapsWithSole [.Tuple [.Name x px, .Name y py] kt pt] (.Tuple [a, b] k2 pt2) pos.line X.env = pure false := by rfl) : PSt X c (.Assign [.Tuple [.Name x px, .Name y py] kt pt] (.Tuple [a, b] k2 pt2) pos) (sPar i j A B) :=
  ⟨ps_imp (ps_par hc hN hi hj hij hx hy (pa_cons ha.pe (pa_cons hb.pe pa_nil hs2) hs1) hw hs) fun E σ H ⟨Γ, Δ, τ, D, hl, at_, p, k⟩ => by
    refine gE_st hl at_ p fun v H1 r1 f1 a1 rr1 q1 => gE_st hl a1 q1 fun u H2 r2 f2 a2 rr2 ⟨d, e, e1, e2, l1, l2, q⟩ => ?_
    subst e1 e2
    have rr1' := rr1.mono f2
    refine ⟨v, u, rfl, k.nx _ _ H2 q (by simp [hl]) ?_⟩
    have s1 := store_at (i := i) (v := v) (r := .dat d) at_ a2 hl rr1' rfl l1
    have hl1 : (σ.set i (some v)).length = (Γ.set i (some (G.dat d))).length := by simp [hl]
    exact store_at (i := j) (v := u) (r := .dat e) s1 s1 hl1 rr2 rfl (by simpa using l2)⟩
/-- x += e, of ints -/
def sAug (i : Nat) (f : Int → Int → Int) (A : XE) : XS := fun D Γ => ∃ m, Γ[i]? = some (some (.dat (.int m))) ∧ A Γ fun r => ∃ n, r = .dat (.int n) ∧ D.nx (Γ.set i (some (.dat (.int (f m n)))))
theorem st_aug (i : Nat) {x : Str} {op : Operator} {f : Int → Int → Int} {pos' : Pos} (hN : X.N.Nodup) (ho : PIp X op (ipI f)) (ha : PEa X c e A) (hi : X.N[i]? = some x := by rfl) (hx : Loc X.env.scope x := by first | exact .inl rfl | exact .inr rfl)
    (hf : X.fn x = true ∨ X.env.scope.names.lookup x = some .local := by first | exact .inl rfl | exact .inr rfl | assumption) : PSt X c (.AugAssign (.Name x pos') op e pos) (sAug i f A) :=
  ⟨ps_imp (ps_aug (i := i) hN hi hx ha.pe ho hf) fun E σ H ⟨Γ, Δ, τ, D, hl, at_, ⟨m, hm, p⟩, k⟩ => by
    have il : i < Γ.length := (List.getElem?_eq_some_iff.mp hm).1
    obtain ⟨v, h1, h2, _⟩ := (at_.left hl).slot i _ hm
    cases h2
    refine ⟨.int m, h1, gE_st hl at_ p fun v H' r f a r1 ⟨n, er, q⟩ => ?_⟩
    subst er
    cases r1.ro.int
    exact ⟨m, n, rfl, rfl, k.nx _ _ H' q (by simp [hl]) (store_at at_ a hl (rr_int _) rfl il)⟩⟩
/-- while -/
def sWhile (T : XT) (S : XS) : XS := fun D Γ => ∃ W : Nat → Gam → Prop, (∃ m, W m Γ) ∧ ∀ m Γ1, W m Γ1 → T Γ1 fun b => if b = true then S { nx := fun Γ' => ∃ m', m' < m ∧ W m' Γ', ct := fun Γ' => ∃ m', m' < m ∧ W m' Γ', bk := D.nx, rt := D.rt } Γ1 else D.nx Γ1
theorem st_while {body : List Stmt} (hp : PassesOwn (model X.prog X.w) X.A X.env X.xe) (ht : PTa X c e T) (hb : PSts X c body S) : PSt X c (.While e body [] pos) (sWhile T S) := ⟨ps_imp (ps_while hp ht.pt hb.ps) fun E σ H ⟨Γ, Δ, τ, D, hl, at_, ⟨W, ⟨m0, w0⟩, step⟩, k⟩ => by
  refine ⟨fun m σ1 H1 => ∃ Γ1, W m Γ1 ∧ σ1.length = Γ1.length ∧ At c (σ1 ++ τ) H1 (Γ1 ++ Δ), ⟨m0, Γ, w0, hl, at_⟩, ?_⟩
  rintro m σ1 H1 ⟨Γ1, w1, hl1, a1⟩
  refine gT_st hl1 a1 (step m Γ1 w1) fun b H2 f2 a2 q2 => ?_
  cases b with
  | false => exact k.nx Γ1 σ1 H2 q2 hl1 a2
  | true =>
    refine ⟨fun σ' H' => ∃ m', m' < m ∧ ∃ Γ', W m' Γ' ∧ σ'.length = Γ'.length ∧ At c (σ' ++ τ) H' (Γ' ++ Δ), fun σ' H' ⟨m', hm, Γ', w', hl', a'⟩ => ⟨m', hm, Γ', w', hl', a'⟩, Γ1, Δ, τ, _, hl1, a2, q2, ?_⟩
    exact ⟨fun Γ' σ' H' ⟨m', hm, w'⟩ hl' a' => ⟨m', hm, Γ', w', hl', a'⟩, k.nx, fun Γ' σ' H' ⟨m', hm, w'⟩ hl' a' => ⟨m', hm, Γ', w', hl', a'⟩, k.rt⟩⟩
/-- for -/
def sFor (I : XI) (t : Tgt) (S : XS) : XS := fun D Γ => I Γ fun items gh => gh = true ∧ ∃ W : Nat → Gam → Prop, W 0 Γ ∧ (∀ (i : Nat) d, items[i]? = some d → ∀ Γ1, W i Γ1 → ∃ Γ2, t.go d Γ1 = some Γ2 ∧ S { nx := W (i + 1), ct := W (i + 1), bk := D.nx, rt := D.rt } Γ2) ∧ ∀ Γ1, W items.length Γ1 → D.nx Γ1
theorem st_for {iter : Expr} {body : List Stmt} {I : XI} {t : Tgt} (hp : PassesOwn (model X.prog X.w) X.A X.env X.xe) (hc : X.calm = true) (hi : PIa X c tg iter I) (hg : PGa X c tg t) (hb : PSts X c body S) (hs : ∀ x, foldedSetIterable iter X.env x = pure x := by intro _; rfl) :
    PSt X c (.For tg iter body [] pos) (sFor I t S) := ⟨ps_imp (ps_for hp hc hi.pi hg.pg hb.ps hs) fun E σ H ⟨Γ, Δ, τ, D, hl, at_, p, k⟩ => by
  refine ⟨Γ, _, at_.left hl, p, fun J H1 items gh Z f1 at1 z1 zs gho yl ⟨eg, W, w0, step, done⟩ => ?_⟩
  obtain ⟨τ', Δ', push, zat⟩ := gho eg
  have aW := push τ Δ at_ (at_.grow f1 at1.J)
  refine ⟨fun i m σ1 H2 => m = items.length - i ∧ i ≤ items.length ∧ ∃ Γ1, W i Γ1 ∧ σ1.length = Γ1.length ∧ At c (σ1 ++ (τ ++ τ')) H2 (Γ1 ++ (Δ ++ Δ')), ⟨items.length, by omega, by omega, Γ, w0, hl, aW⟩, ?_⟩
  rintro i m σ1 H2 ⟨rfl, hi, Γ1, w1, hl1, a1⟩
  have hlτ : τ.length = Δ.length := by
    have := at_.len
    rw [List.length_append, List.length_append] at this
    omega
  have drop : ∀ {σ3 Γ3 H3}, σ3.length = Γ3.length → At c (σ3 ++ (τ ++ τ')) H3 (Γ3 ++ (Δ ++ Δ')) → At c (σ3 ++ τ) H3 (Γ3 ++ Δ) := fun {σ3 Γ3 H3} hl3 a3 => by
    rw [← List.append_assoc, ← List.append_assoc] at a3
    exact a3.left (by rw [List.length_append, List.length_append]; omega)
  have z2 : Z H2 := by
    have a2 := a1
    rw [← List.append_assoc, ← List.append_assoc] at a2
    exact zat _ _ _ a2 (by rw [List.length_append, List.length_append]; omega)
  by_cases hlt : i < items.length
  · refine .inr ⟨yl.go i H2 z2 hlt, fun σ' H' => i + 1 ≤ items.length ∧ ∃ Γ', W (i + 1) Γ' ∧ σ'.length = Γ'.length ∧ At c (σ' ++ (τ ++ τ')) H' (Γ' ++ (Δ ++ Δ')), fun σ' H' hN => ⟨items.length - (i + 1), by omega, rfl, hN⟩, fun x H3 hy => ?_⟩
    obtain ⟨f3, z3, d, hd, dp3, id3⟩ := yl.yld i H2 x H3 z2 hlt hy
    obtain ⟨Γ2, et, q⟩ := step i d hd Γ1 w1
    refine tgt_run dp3 id3 hl1 (a1.ext f3) et fun σ4 hl4 a4 _ => ⟨Γ2, Δ ++ Δ', τ ++ τ', _, hl4, a4, q, ?_⟩
    exact ⟨fun Γ' σ' H' w' hl' a' => ⟨by omega, Γ', w', hl', a'⟩, fun Γ' σ' H' q' hl' a' => k.nx Γ' σ' H' q' hl' (drop hl' a'), fun Γ' σ' H' w' hl' a' => ⟨by omega, Γ', w', hl', a'⟩, k.rt⟩
  · have e : i = items.length := by omega
    subst e
    exact .inl ⟨yl.stop _ H2 z2 (Nat.le_refl _), k.nx Γ1 σ1 H2 (done Γ1 w1) hl1 (drop hl1 a1)⟩⟩
/-- own lists: append, extend by a new one, xs[i] = v -/
def sApp (i : Nat) (A : XE) : XS := fun D Γ => ∃ ds, Γ[i]? = some (some (.own ds)) ∧ A Γ fun r => ∃ d, r = .dat d ∧ ds.length < sizeLine ∧ D.nx (Γ.set i (some (.own (ds ++ [d]))))
theorem own_at {σ τ : L2.St} {Γ Δ : Gam} {H : Hp} {i : Nat} {ds : List PyData} (a : At c (σ ++ τ) H (Γ ++ Δ)) (hl : σ.length = Γ.length) (e : Γ[i]? = some (some (.own ds))) : ∃ x vs, σ[i]? = some (some (.ref x)) ∧ H x = some (.lst vs) ∧ DpAll c.K H vs ds ∧ immAll ds = true ∧ x ∉ c.S := by
  obtain ⟨v, h1, x, vs, h2, h3, h4, h5, h6, h7⟩ := (a.left hl).slot i _ e
  subst h2
  exact ⟨x, vs, h1, h5, h6, h7, h4⟩
theorem write_at {σ τ : L2.St} {Γ Δ : Gam} {H : Hp} {i : Nat} {x : Addr} {vs : List V} {ds es : List PyData} (a : At c (σ ++ τ) H (Γ ++ Δ)) (hl : σ.length = Γ.length) (e : Γ[i]? = some (some (.own ds))) (h1 : σ[i]? = some (some (.ref x))) (hd : DpAll c.K H vs es) (hi : immAll es = true) :
    At c (σ ++ τ) (upd H x (.lst vs)) (Γ.set i (some (.own es)) ++ Δ) := by
  have il : i < Γ.length := (List.getElem?_eq_some_iff.mp e).1
  have := a.write (i := i) (x := x) (ds := ds) (by rw [List.getElem?_append_left il]; exact e) (by rw [List.getElem?_append_left (by omega)]; exact h1) hd hi
  rw [List.set_append_left _ _ il] at this
  exact this
theorem st_app (i : Nat) {x : Str} {px pa pc : Pos} {pl : Sem Bool} (ha : PEa X c e A) (hv : PE X (.Name x px) (tVar i)) (hm : PE X (.Call (.Attribute (.Name x px) "append" pa) [e] [] pc) (tBM X.K "list" rAppend (tVar i) (tCons (gE c A) tNil)) := by exact pe_bm PySem.F.plainAttrs_list PySem.F.slot_list_append PySem.F.type_list_append mt_append hv (pa_cons ha.pe pa_nil)) (hs : swapsWith (.Call (.Attribute (.Name x px) "append" pa) [e] [] pc) none pos.line X.env = pure false := by rfl)
    (hK : X.K = c.K := by rfl) : PSt X c (.Expr (.Call (.Attribute (.Name x px) "append" pa) [e] [] pc) pos) (sApp i A) := ⟨ps_imp (ps_expr hm hs) fun E σ H ⟨Γ, Δ, τ, D, hl, at_, ⟨ds, eΓ, p⟩, k⟩ => by
  obtain ⟨x, vs, h1, h2, h3, h4, h5⟩ := own_at at_ hl eΓ
  refine ⟨.ref x, h1, .inl ⟨rfl, _, SqL.of h2⟩, gE_st hl at_ p fun v H1 r f1 a1 r1 ⟨d, er, hz, q⟩ => ?_⟩
  subst er
  have h2' := f1.keep x _ h5 h2
  refine ⟨x, vs, v, rfl, rfl, h2', by rw [dpAll_length h3]; exact hz, k.nx _ _ _ q (by simp [hl]) ?_⟩
  exact write_at a1 hl eΓ h1 (dpAll_append (dpAll_mono f1.tup _ _ h4 h3) (.cons r1.1 .nil)) (by simp [immAll_append, h4, immAll, r1.2])⟩
def sPut (i : Nat) (A B : XE) : XS := fun D Γ => B Γ fun y => ∃ d ds, y = .dat d ∧ Γ[i]? = some (some (.own ds)) ∧ A Γ fun x => ∃ k j, x = .dat (.int k) ∧ ixN ds.length k = some j ∧ D.nx (Γ.set i (some (.own (ds.set j d))))
theorem st_put (i : Nat) {x : Str} {px ps : Pos} (hv : PE X (.Name x px) (tVar i)) (ha : PEa X c a A) (hb : PEa X c b B)
    (has : ∀ v, assign (.Subscript (.Name x px) a ps) X.env v = (do
      let ov ← holding [v] (eval (.Name x px) X.env)
      let iv ← holding [v, ov] (eval a X.env)
      standAt ps
      holding [v, ov, iv] (setItem ov iv v)
      release [v, ov, iv] []) := by intro _; rfl)
    (hs : swapsWithSole [.Subscript (.Name x px) a ps] b pos.line X.env = pure false := by rfl) (hw : swappedStores [.Subscript (.Name x px) a ps] b X.env = pure none := by rfl) (h1 : (assignEach [.Subscript (.Name x px) a ps] X.env).map (·.2) = [assign (.Subscript (.Name x px) a ps) X.env] := by rfl) :
    PSt X c (.Assign [.Subscript (.Name x px) a ps] b pos) (sPut i A B) := ⟨ps_imp (ps_asg hb.pe (pg_sub hv ha.pe set_list has) hs hw h1) fun E σ H ⟨Γ, Δ, τ, D, hl, at_, p, k⟩ => by
  refine gE_st hl at_ p fun v H1 r f1 a1 r1 ⟨d, ds, er, eΓ, q⟩ => ?_
  subst er
  obtain ⟨x, vs, h1, h2, h3, h4, h5⟩ := own_at a1 hl eΓ
  refine ⟨.ref x, h1, gE_st hl a1 q fun u H2 r2 f2 a2 rr2 ⟨m, j, er, hj, q2⟩ => ?_⟩
  subst er
  cases rr2.ro.int
  have h2' := f2.keep x _ h5 h2
  have r1' := r1.mono f2
  refine ⟨x, vs, m, j, rfl, rfl, h2', by rw [dpAll_length h3]; exact hj, k.nx _ _ _ q2 (by simp [hl]) ?_⟩
  exact write_at a2 hl eΓ h1 (dpAll_set r1'.1 j (dpAll_mono f2.tup _ _ h4 h3)) (immAll_set j r1'.2 h4)⟩

/-! ### a def, from its body -/
def argG : RV → Option G
  | .dat d => some (.dat d)
  | .vw ds => some (.vw ds)
  | .obj p => some (.obj p)
  | _ => none
/-- the environment at the entry -/
def gam0 (N : List Str) (rs : List RV) : Gam := rs.map argG ++ List.replicate (N.length - rs.length) none
theorem start_at {K : PySem.W.Frag} {S : List Addr} {J : Hp → Prop} {H : Hp} {N : List Str} (ok : (cx0 K S J H).Ok) {vs : List V} {rs : List RV} (h : Paired (ArgR K S H) vs rs) : At (cx0 K S J H) (L2.start N vs) H (gam0 N rs) := by
  have hlen : vs.length = rs.length := by
    clear ok
    induction h with
    | nil => rfl
    | cons _ _ ih => simp [ih]
  have get : ∀ {vs : List V} {rs : List RV} (i : Nat) (r : RV), Paired (ArgR K S H) vs rs → rs[i]? = some r → ∃ v, vs[i]? = some v ∧ ArgR K S H v r := by
    intro vs rs i r h
    induction h generalizing i with
    | nil => intro e; simp at e
    | cons a t ih =>
      intro e
      cases i with
      | zero => simp at e; subst e; exact ⟨_, rfl, a⟩
      | succ i =>
        obtain ⟨v, h1, h2⟩ := ih i (by simpa using e)
        exact ⟨v, by simpa using h1, h2⟩
  have noOwn : ∀ (i : Nat) ds, (gam0 N rs)[i]? ≠ some (some (.own ds)) := fun i ds z => by
    unfold gam0 at z
    by_cases hi : i < rs.length
    · rw [List.getElem?_append_left (by simpa using hi), List.getElem?_map] at z
      cases e : rs[i]? with
      | none => rw [e] at z; cases z
      | some r =>
        rw [e] at z
        cases r <;> simp [argG] at z
    · rw [List.getElem?_append_right (by simpa using Nat.le_of_not_lt hi), List.getElem?_replicate] at z
      split at z <;> simp at z
  refine ⟨ok, ?_, fun i g e => ?_, fun i j v ds es e1 _ _ _ => absurd e1 (noOwn i ds), Fx.refl H, ok.j0⟩
  · unfold L2.start gam0
    simp [hlen]
  · unfold gam0 at e
    by_cases hi : i < rs.length
    · rw [List.getElem?_append_left (by simpa using hi), List.getElem?_map] at e
      cases q : rs[i]? with
      | none => rw [q] at e; cases e
      | some r =>
        rw [q] at e
        obtain ⟨v, h1, h2⟩ := get i r h q
        refine ⟨v, ?_, ?_⟩
        · unfold L2.start
          rw [List.getElem?_append_left (by rw [List.length_map, hlen]; exact hi), List.getElem?_map, h1]
          rfl
        · cases r with
          | dat d => simp [argG] at e; subst e; exact h2
          | vw ds =>
            simp [argG] at e
            subst e
            obtain ⟨a, ws, rfl, g1, g2, _, g3, g4⟩ := h2
            exact ⟨a, ws, rfl, g1, g2, g3, g4⟩
          | obj p => simp [argG] at e; subst e; exact h2
          | new ds => simp [argG] at e
          | al ds => simp [argG] at e
    · rw [List.getElem?_append_right (by simpa using Nat.le_of_not_lt hi), List.getElem?_replicate] at e
      split at e <;> simp at e
/-- how a body ends -/
def fin (P : RV → Prop) : AD := ⟨fun _ => P (.dat .none), fun _ => False, fun _ => False, fun r => r.ret = true ∧ P r⟩
theorem ok_pure (K : PySem.W.Frag) (H : Hp) : (cx0 K [] (fun _ => True) H).Ok := ⟨True.intro, fun _ _ s h => by simp [cx0] at h, fun _ _ _ _ => True.intro⟩
theorem def_pure {P : Program} {w : World} {K : PySem.W.Frag} {mg : Str → Option Value} {base : Heap} {x qual : Str} {st : Stmt} {f : Addr} {fd : FuncData} {N ps : List Str} {k : Nat} {asp : Asp} (F : Fun K x qual st f fd) (Sc : FnScope N ps (defScope st)) (hlen : ∀ rs P, asp rs P → rs.length = ps.length)
    (hbody : ∀ (cdv : Value) (A : Around) (outer : List Env) (s : Shared) (H : Hp) (E : XK), Room k (A.deeper (envOfC qual (defScope st) s.heap.objs.size f cdv)) → ∃ B, PSts (cxOf CX0 P w K mg base N qual (defScope st) f cdv A outer s H E).nox (cx0 K [] (fun _ => True) H) (defBody st) B ∧ ∀ rs P, asp rs P → B (fin P) (gam0 N rs)) :
    FnOk P w K mg base CX0 (k + 1) f fd ps (pSp K asp) := by
  refine F.ok Sc (fun vs H Q E ⟨rs, R, h1, h2, _⟩ => ?_) (fun cdv A outer s H vs Q E hr ⟨rs, R, h1, h2, h3⟩ => ?_)
  · rw [Paired.length h1]
    exact hlen rs R h2
  · obtain ⟨B, hB, q⟩ := hbody cdv A outer s H E hr
    have a0 := start_at (N := N) (ok_pure K H) h1
    refine ⟨_, hB.ps, gam0 N rs, [], [], fin R, a0.len, by rw [List.append_nil, List.append_nil]; exact a0, q rs R h2, ⟨fun Γ σ H' p hl a => ?_, fun Γ σ H' p => p.elim, fun Γ σ H' p => p.elim, fun v H' r fx j rr ⟨p1, p2⟩ => h3 v H' r fx rr p1 p2⟩⟩
    exact h3 .non H' (.dat .none) a.kp rr_non rfl p
theorem def_draw {P : Program} {w : World} {K : PySem.W.Frag} {T : List Addr} {mg : Str → Option Value} {base : Heap} {x qual : Str} {st : Stmt} {f : Addr} {fd : FuncData} {N ps : List Str} {k : Nat} {W : Addr → (Hp → Prop) → Prop} {asp : Addr → Asp} (F : Fun K x qual st f fd) (Sc : FnScope N ps (defScope st)) (hlen : ∀ a rs P, asp a rs P → rs.length = ps.length)
    (hok : ∀ a J H, W a J → J H → (cx0 K (a :: T) J H).Ok)
    (hbody : ∀ (cdv : Value) (A : Around) (outer : List Env) (s : Shared) (H : Hp) (E : XK) (a : Addr) (J : Hp → Prop), W a J → J H → Room k (A.deeper (envOfC qual (defScope st) s.heap.objs.size f cdv)) → ∃ B, PSts (cxOf CX0 P w K mg base N qual (defScope st) f cdv A outer s H E).nox (cx0 K (a :: T) J H) (defBody st) B ∧ ∀ rs P, asp a rs P → B (fin P) (gam0 N rs)) :
    FnOk P w K mg base CX0 (k + 1) f fd ps (dSp K T W asp) := by
  refine F.ok Sc (fun vs H Q E ⟨a, J, rs, R, _, _, h1, h2, _⟩ => ?_) (fun cdv A outer s H vs Q E hr ⟨a, J, rs, R, hW, hJ, h1, h2, h3⟩ => ?_)
  · rw [Paired.length h1]
    exact hlen a rs R h2
  · obtain ⟨B, hB, q⟩ := hbody cdv A outer s H E a J hW hJ hr
    have a0 := start_at (N := N) (hok a J H hW hJ) h1
    refine ⟨_, hB.ps, gam0 N rs, [], [], fin R, a0.len, by rw [List.append_nil, List.append_nil]; exact a0, q rs R h2, ⟨fun Γ σ H' p hl at_ => ?_, fun Γ σ H' p => p.elim, fun Γ σ H' p => p.elim, fun v H' r fx j rr ⟨p1, p2⟩ => h3 v H' r fx j rr p1 p2⟩⟩
    exact h3 .non H' (.dat .none) at_.kp at_.J rr_non rfl p
end
end Ab

namespace Ab
open PySem PySem.Spec PyProof.Rows L2

/-! ### how the transformers compute -/
section
variable {Γ : Gam} {P : RV → Prop} {i j : Int} {x y : Str} {xs ys : List PyData} {r : RV} {D : AD} {g : G} {o : Option G} {n : Nat}
theorem v_zero : aVar 0 (some g :: Γ) P = P g.rv := by
  unfold aVar
  simp
theorem v_succ : aVar (n + 1) (o :: Γ) P = aVar n Γ P := by
  unfold aVar
  simp
theorem c_eval {d : PyData} : aC d Γ P = P (.dat d) := rfl
theorem i_eval {C : Int → Int → Prop} {f : Int → Int → PyData} : oI C f (.dat (.int i)) (.dat (.int j)) P = (C i j ∧ P (.dat (f i j))) := by
  unfold oI
  simp
theorem add_ii : oAdd (.dat (.int i)) (.dat (.int j)) P = P (.dat (.int (i + j))) := by
  unfold oAdd oI oStrCat oTupCat oLstCat
  simp
theorem add_ss : oAdd (.dat (.str x)) (.dat (.str y)) P = (x.length + y.length ≤ sizeLine ∧ P (.dat (.str (x ++ y)))) := by
  unfold oAdd oI oStrCat oTupCat oLstCat
  simp
theorem add_tt : oAdd (.dat (.tuple xs)) (.dat (.tuple ys)) P = (xs.length + ys.length ≤ sizeLine ∧ P (.dat (.tuple (xs ++ ys)))) := by
  unfold oAdd oI oStrCat oTupCat oLstCat
  simp
theorem add_ll : oAdd (.new xs) (.new ys) P = (xs.length + ys.length ≤ sizeLine ∧ P (.new (xs ++ ys))) := by
  unfold oAdd oI oStrCat oTupCat oLstCat
  simp [RV.lst?]
theorem mul_ii : oMul (.dat (.int i)) (.dat (.int j)) P = (CMul i j ∧ P (.dat (.int (i * j)))) := by
  unfold oMul oI oTupRep oLstRep
  simp
theorem mul_ti : oMul (.dat (.tuple xs)) (.dat (.int j)) P = (-1000 ≤ j ∧ j ≤ 1000 ∧ xs.length ≤ 1000 ∧ P (.dat (.tuple (reps j xs)))) := by
  unfold oMul oI oTupRep oLstRep
  simp
theorem mul_li : oMul (.new xs) (.dat (.int j)) P = (-(2 ^ 63) ≤ j ∧ j < 2 ^ 63 ∧ xs.length * j.toNat ≤ sizeLine ∧ P (.new (reps j xs))) := by
  unfold oMul oI oTupRep oLstRep
  simp
theorem eq_eval {r q : RV} : oEq r q P = ∃ d e, r.dt? = some d ∧ q.dt? = some e ∧ SeqAt.shaped d = true ∧ SeqAt.shaped e = true ∧ P (.dat (.bool (PyData.eqv d e))) := rfl
theorem sh_int : SeqAt.shaped (.int i) = true := rfl
theorem sh_bool {b : Bool} : SeqAt.shaped (.bool b) = true := rfl
theorem sh_none : SeqAt.shaped .none = true := rfl
theorem eqv_ii : PyData.eqv (.int i) (.int j) = decide (i = j) := by
  show (i == j) = _
  rw [Bool.beq_eq_decide_eq]
theorem eqv_ss : PyData.eqv (.str x) (.str y) = decide (x = y) := by
  show (x == y) = _
  rw [Bool.beq_eq_decide_eq]
theorem eq_ii : oEq (.dat (.int i)) (.dat (.int j)) P = P (.dat (.bool (decide (i = j)))) := by
  unfold oEq
  simp [RV.dt?, sh_int, eqv_ii]
theorem ne_ii : oNe (.dat (.int i)) (.dat (.int j)) P = P (.dat (.bool (!decide (i = j)))) := by
  unfold oNe
  simp [RV.dt?, sh_int, eqv_ii]
theorem eqv_bb : ∀ a b : Bool, PyData.eqv (.bool a) (.bool b) = (a == b) := fun a b => rfl
theorem eq_bb {a b : Bool} : oEq (.dat (.bool a)) (.dat (.bool b)) P = P (.dat (.bool (a == b))) := by
  unfold oEq
  simp [RV.dt?, sh_bool, eqv_bb]
theorem ne_bb {a b : Bool} : oNe (.dat (.bool a)) (.dat (.bool b)) P = P (.dat (.bool (!(a == b)))) := by
  unfold oNe
  simp [RV.dt?, sh_bool, eqv_bb]
theorem is_n {d : PyData} : oIs (.dat d) (.dat .none) P = P (.dat (.bool (isNone d))) := by
  unfold oIs
  simp
theorem isn_n {d : PyData} : oIsn (.dat d) (.dat .none) P = P (.dat (.bool (!isNone d))) := by
  unfold oIsn
  simp
theorem is_b {a b : Bool} : oIs (.dat (.bool a)) (.dat (.bool b)) P = P (.dat (.bool (decide (a = b)))) := by
  unfold oIs
  simp
theorem isn_b {a b : Bool} : oIsn (.dat (.bool a)) (.dat (.bool b)) P = P (.dat (.bool (!decide (a = b)))) := by
  unfold oIsn
  simp
theorem ix_eval {q : RV} : oIx q (.dat (.int i)) P = ((∃ ds d, seqOf q = some ds ∧ atI ds i = some d ∧ P (.dat d)) ∨ ∃ z k, q = .dat (.str z) ∧ z.length ≤ sizeLine ∧ atI z.cps.toList i = some k ∧ P (.dat (.str ⟨#[k]⟩))) := by
  unfold oIx
  simp
theorem ix_t : oIx (.dat (.tuple xs)) (.dat (.int i)) P = ∃ d, atI xs i = some d ∧ P (.dat d) := by
  unfold oIx
  simp [seqOf]
theorem ix_n : oIx (.new xs) (.dat (.int i)) P = ∃ d, atI xs i = some d ∧ P (.dat d) := by
  unfold oIx
  simp [seqOf]
theorem ix_v : oIx (.vw xs) (.dat (.int i)) P = ∃ d, atI xs i = some d ∧ P (.dat d) := by
  unfold oIx
  simp [seqOf]
theorem ix_a : oIx (.al xs) (.dat (.int i)) P = ∃ d, atI xs i = some d ∧ P (.dat d) := by
  unfold oIx
  simp [seqOf]
theorem sl_t {l h : Option Int} : oSl (.dat (.tuple xs)) l h P = P (.dat (.tuple (cutD xs l h))) := by
  unfold oSl
  simp [RV.lst?]
theorem sl_n {l h : Option Int} : oSl (.new xs) l h P = P (.new (cutD xs l h)) := by
  unfold oSl
  simp [RV.lst?]
theorem sl_v {l h : Option Int} : oSl (.vw xs) l h P = P (.new (cutD xs l h)) := by
  unfold oSl
  simp [RV.lst?]
theorem sl_a {l h : Option Int} : oSl (.al xs) l h P = P (.new (cutD xs l h)) := by
  unfold oSl
  simp [RV.lst?]
theorem len_t : kLen [.dat (.tuple xs)] P = P (.dat (.int xs.length)) := by
  unfold kLen
  simp [lenOf]
theorem len_n : kLen [.new xs] P = P (.dat (.int xs.length)) := by
  unfold kLen
  simp [lenOf]
theorem len_v : kLen [.vw xs] P = P (.dat (.int xs.length)) := by
  unfold kLen
  simp [lenOf]
theorem len_a : kLen [.al xs] P = P (.dat (.int xs.length)) := by
  unfold kLen
  simp [lenOf]
theorem len_s : kLen [.dat (.str x)] P = (x.length ≤ sizeLine ∧ P (.dat (.int x.length))) := by
  unfold kLen
  simp [lenOf]
  exact ⟨fun ⟨_, ⟨a, e⟩, p⟩ => by subst e; exact ⟨a, p⟩, fun ⟨a, p⟩ => ⟨_, ⟨a, rfl⟩, p⟩⟩
theorem abs_eval : kAbs [.dat (.int i)] P = P (.dat (.int (if i < 0 then -i else i))) := by
  unfold kAbs
  simp
theorem int_eval : kInt [.dat (.int i)] P = P (.dat (.int i)) := by
  unfold kInt
  simp
theorem max_eval : kMax [.dat (.int i), .dat (.int j)] P = P (.dat (.int (max i j))) := by
  unfold kMax
  simp
  exact ⟨fun ⟨_, _, ⟨a, e⟩, p⟩ => a ▸ e ▸ p, fun p => ⟨_, _, ⟨rfl, rfl⟩, p⟩⟩
theorem min_eval : kMin [.dat (.int i), .dat (.int j)] P = P (.dat (.int (min i j))) := by
  unfold kMin
  simp
  exact ⟨fun ⟨_, _, ⟨a, e⟩, p⟩ => a ▸ e ▸ p, fun p => ⟨_, _, ⟨rfl, rfl⟩, p⟩⟩
theorem list_t : kList [.dat (.tuple xs)] P = P (.new xs) := by
  unfold kList
  simp [seqOf]
theorem list_n : kList [.new xs] P = P (.new xs) := by
  unfold kList
  simp [seqOf]
theorem list_v : kList [.vw xs] P = P (.new xs) := by
  unfold kList
  simp [seqOf]
theorem list_a : kList [.al xs] P = P (.new xs) := by
  unfold kList
  simp [seqOf]
theorem tuple_t : kTuple [.dat (.tuple xs)] P = P (.dat (.tuple xs)) := by
  unfold kTuple
  simp [seqOf]
theorem tuple_n : kTuple [.new xs] P = P (.dat (.tuple xs)) := by
  unfold kTuple
  simp [seqOf]
theorem tuple_v : kTuple [.vw xs] P = P (.dat (.tuple xs)) := by
  unfold kTuple
  simp [seqOf]
theorem tuple_a : kTuple [.al xs] P = P (.dat (.tuple xs)) := by
  unfold kTuple
  simp [seqOf]
theorem sum_eval {q : RV} : kSum [q] P = ∃ ds ns, seqOf q = some ds ∧ numsOf2 ds = some ns ∧ P (.dat (.int ns.sum)) := by
  unfold kSum
  simp
theorem isi_eval {d : PyData} {t : String} : kIsi [.dat d, .obj (isTyp t)] P = ∃ b, isinst t d = some b ∧ P (.dat (.bool b)) := by
  unfold kIsi
  apply propext
  constructor
  · rintro ⟨d', n, b, e, h, p⟩
    simp only [List.cons.injEq, RV.dat.injEq, RV.obj.injEq, and_true] at e
    obtain ⟨rfl, e⟩ := e
    have : t = n := by
      have h1 : isTyp t (.ty t) := rfl
      rw [e] at h1
      exact V.ty.inj h1
    subst this
    exact ⟨b, h, p⟩
  · rintro ⟨b, h, p⟩
    exact ⟨d, t, b, rfl, h, p⟩
theorem isi_bool_int : isinst "bool" (.int i) = some false := by
  show kitB "int" "bool" = some false
  decide +kernel
theorem isi_bool_bool {b : Bool} : isinst "bool" (.bool b) = some true := by
  show kitB "bool" "bool" = some true
  decide +kernel
theorem isi_tuple_tuple : isinst "tuple" (.tuple xs) = some true := by
  show kitB "tuple" "tuple" = some true
  decide +kernel
theorem rangeD_get {a b : Int} {k : Nat} {d : PyData} : (rangeD a b)[k]? = some d ↔ d = .int (a + (k : Nat)) ∧ k < (b - a).toNat := by
  unfold rangeD
  rw [List.getElem?_map]
  by_cases h : k < (b - a).toNat
  · rw [List.getElem?_range h]
    simp [h, eq_comm]
  · rw [List.getElem?_eq_none (by simpa using h)]
    simp [h]
theorem rangeD_len {a b : Int} : (rangeD a b).length = (b - a).toNat := by
  unfold rangeD
  rw [List.length_map, List.length_range]
theorem map_get {α : Type} {f : α → PyData} {l : List α} {k : Nat} {d : PyData} : (l.map f)[k]? = some d ↔ ∃ x, l[k]? = some x ∧ f x = d := by
  rw [List.getElem?_map, Option.map_eq_some_iff]
theorem atI_map {α : Type} {f : α → PyData} {l : List α} {i : Int} {d : PyData} : atI (l.map f) i = some d ↔ ∃ x, atI l i = some x ∧ f x = d := by
  unfold atI
  rw [List.length_map]
  cases ixN l.length i with
  | none => simp
  | some j => simpa using map_get (l := l) (k := j)
theorem atI_pos {α : Type} {l : List α} {i : Int} (h0 : 0 ≤ i) (h1 : i < l.length) : atI l i = l[i.toNat]? := by
  unfold atI ixN
  rw [if_pos h0, if_pos h1]
  rfl
theorem atI_getD {α : Type} {l : List α} {i : Int} (h0 : 0 ≤ i) (h1 : i < l.length) (d : α) : atI l i = some (l.getD i.toNat d) := by
  rw [atI_pos h0 h1]
  have : i.toNat < l.length := by omega
  simp [List.getD, List.getElem?_eq_getElem this]
def bI (b : Bool) : Int := if b = true then 1 else 0
theorem nums_bool : ∀ bs : List Bool, numsOf2 (bs.map .bool) = some (bs.map bI)
  | [] => rfl
  | b :: bs => by
    rw [List.map_cons, numsOf2, nums_bool bs]
    rfl
theorem nums_int : ∀ bs : List Int, numsOf2 (bs.map .int) = some bs
  | [] => rfl
  | b :: bs => by
    rw [List.map_cons, numsOf2, nums_int bs]
    rfl
theorem cdiv_pos {i j : Int} (h0 : 0 < j) (h1 : j < 1073741824) : CDivN i j := ⟨by omega, by omega⟩
theorem fdiv_pos {i j : Int} (h : 0 < j) : i.fdiv j = i / j := Int.fdiv_eq_ediv_of_nonneg i (by omega)
theorem fmod_pos {i j : Int} (h : 0 < j) : i.fmod j = i % j := Int.fmod_eq_emod_of_nonneg i (by omega)
theorem cmul_r {i j : Int} (h1 : -(2 ^ 64) < j) (h2 : j < 2 ^ 64) : CMul i j := .inr ⟨h1, h2⟩
theorem cmul_l {i j : Int} (h1 : -(2 ^ 64) < i) (h2 : i < 2 ^ 64) : CMul i j := .inl ⟨h1, h2⟩
theorem emod_div {a b : Int} : a % b + b * (a / b) = a := by
  have := Int.mul_ediv_add_emod a b
  omega
theorem cutD_map {α : Type} {f : α → PyData} {l : List α} {lo hi : Option Int} : cutD (l.map f) lo hi = (cutD l lo hi).map f := by
  unfold cutD
  rw [List.length_map, List.map_take, List.map_drop]
theorem sIx_pos {n d : Nat} {i : Int} (h : 0 ≤ i) : HT.sIx n d (some i) = min i.toNat n := by
  obtain ⟨k, e⟩ := Int.eq_ofNat_of_zero_le h
  subst e
  exact HT.sIx_nat n d k
theorem cutD_to {α : Type} {l : List α} {i : Int} (h : 0 ≤ i) : cutD l none (some i) = l.take i.toNat := by
  unfold cutD
  rw [sIx_pos h, HT.sIx_none, List.drop_zero, Nat.sub_zero, ← List.take_eq_take_min]
theorem cutD_from {α : Type} {l : List α} {i : Int} (h : 0 ≤ i) : cutD l (some i) none = l.drop i.toNat := by
  unfold cutD
  rw [sIx_pos h, HT.sIx_none]
  by_cases hi : i.toNat ≤ l.length
  · rw [Nat.min_eq_left hi]
    exact List.take_of_length_le (by rw [List.length_drop]; omega)
  · rw [Nat.min_eq_right (by omega), List.drop_eq_nil_of_le (Nat.le_refl _), List.drop_eq_nil_of_le (by omega), List.take_nil]
theorem reps_map {α : Type} {f : α → PyData} {k : Int} {l : List α} : reps k (l.map f) = (reps k l).map f := by
  unfold reps
  generalize k.toNat = n
  induction n with
  | zero => rfl
  | succ n ih => rw [List.replicate_succ, List.flatten_cons, List.replicate_succ, List.flatten_cons, List.map_append, ih]
theorem reps_len {α : Type} {k : Int} {l : List α} : (reps k l).length = k.toNat * l.length := by
  unfold reps
  generalize k.toNat = n
  induction n with
  | zero => simp
  | succ n ih => rw [List.replicate_succ, List.flatten_cons, List.length_append, ih, Nat.succ_mul, Nat.add_comm]
theorem sh_tup {xs : List PyData} (h : PyData.canLayAll0 xs = true) (d : PyData.depthAll xs ≤ 63) : SeqAt.shaped (.tuple xs) = true := by
  unfold SeqAt.shaped
  rw [PyData.canLay0, h, PyData.depth, decide_eq_true (by omega)]
  rfl
theorem flat_map {α : Type} {f : α → PyData} (h : ∀ x, PyData.canLay0 (f x) = true) (hd : ∀ x, PyData.depth (f x) = 0) (l : List α) : PyData.canLayAll0 (l.map f) = true ∧ PyData.depthAll (l.map f) = 0 := by
  induction l with
  | nil => exact ⟨rfl, rfl⟩
  | cons x l ih =>
    rw [List.map_cons, PyData.canLayAll0, PyData.depthAll, h, hd, ih.1, ih.2]
    exact ⟨rfl, rfl⟩
theorem sh_bools {l : List Bool} : SeqAt.shaped (.tuple (l.map .bool)) = true := by
  obtain ⟨h1, h2⟩ := flat_map (f := PyData.bool) (fun _ => rfl) (fun _ => rfl) l
  exact sh_tup h1 (by omega)
theorem sh_ints {l : List Int} : SeqAt.shaped (.tuple (l.map .int)) = true := by
  obtain ⟨h1, h2⟩ := flat_map (f := PyData.int) (fun _ => rfl) (fun _ => rfl) l
  exact sh_tup h1 (by omega)
theorem eqvAll_map {α : Type} [DecidableEq α] {f : α → PyData} (h : ∀ a b, PyData.eqv (f a) (f b) = decide (a = b)) : ∀ l m : List α, PyData.eqvAll (l.map f) (m.map f) = decide (l = m)
  | [], [] => rfl
  | [], _ :: _ => by simp [PyData.eqvAll]
  | _ :: _, [] => by simp [PyData.eqvAll]
  | x :: xs, y :: ys => by
    rw [List.map_cons, List.map_cons, PyData.eqvAll, h x y, eqvAll_map h xs ys, ← Bool.decide_and]
    exact decide_eq_decide.mpr (by rw [List.cons.injEq])
theorem eqv_bools {l m : List Bool} : PyData.eqv (.tuple (l.map .bool)) (.tuple (m.map .bool)) = decide (l = m) := by
  rw [PyData.eqv]
  exact eqvAll_map (fun a b => by rw [eqv_bb, Bool.beq_eq_decide_eq]) l m
theorem eqv_ints {l m : List Int} : PyData.eqv (.tuple (l.map .int)) (.tuple (m.map .int)) = decide (l = m) := by
  rw [PyData.eqv]
  exact eqvAll_map (fun a b => eqv_ii) l m
theorem eq_bools {l m : List Bool} : oEq (.dat (.tuple (l.map .bool))) (.dat (.tuple (m.map .bool))) P = P (.dat (.bool (decide (l = m)))) := by
  unfold oEq
  simp [RV.dt?, sh_bools, eqv_bools]
theorem ne_bools {l m : List Bool} : oNe (.dat (.tuple (l.map .bool))) (.dat (.tuple (m.map .bool))) P = P (.dat (.bool (!decide (l = m)))) := by
  unfold oNe
  simp [RV.dt?, sh_bools, eqv_bools]
theorem rv_dat {d : PyData} : G.rv (.dat d) = .dat d := rfl
theorem rv_vw {ds : List PyData} : G.rv (.vw ds) = .vw ds := rfl
theorem rv_own {ds : List PyData} : G.rv (.own ds) = .al ds := rfl
theorem rv_obj {p : V → Prop} : G.rv (.obj p) = .obj p := rfl
theorem slot_dat {d : PyData} : RV.slot (.dat d) = some (.dat d) := rfl
theorem arg_dat {d : PyData} : RV.arg (.dat d) = .dat d := rfl
theorem argG_dat {d : PyData} : argG (.dat d) = some (.dat d) := rfl
theorem ret_dat {d : PyData} : RV.ret (.dat d) = true := rfl
theorem gh_dat {d : PyData} : RV.gh (.dat d) = true := rfl
theorem lst_dat {d : PyData} : RV.lst? (.dat d) = none := rfl
theorem dt_dat {d : PyData} : RV.dt? (.dat d) = some d := rfl
theorem slot_new {ds : List PyData} : RV.slot (.new ds) = some (.own ds) := rfl
theorem arg_new {ds : List PyData} : RV.arg (.new ds) = .vw ds := rfl
theorem argG_new {ds : List PyData} : argG (.new ds) = none := rfl
theorem ret_new {ds : List PyData} : RV.ret (.new ds) = true := rfl
theorem gh_new {ds : List PyData} : RV.gh (.new ds) = true := rfl
theorem lst_new {ds : List PyData} : RV.lst? (.new ds) = some ds := rfl
theorem dt_new {ds : List PyData} : RV.dt? (.new ds) = some (.list ds) := rfl
theorem truth_new {ds : List PyData} : truth (.new ds) = some (!ds.isEmpty) := rfl
theorem seqOf_new {ds : List PyData} : seqOf (.new ds) = some ds := rfl
theorem slot_vw {ds : List PyData} : RV.slot (.vw ds) = some (.vw ds) := rfl
theorem arg_vw {ds : List PyData} : RV.arg (.vw ds) = .vw ds := rfl
theorem argG_vw {ds : List PyData} : argG (.vw ds) = some (.vw ds) := rfl
theorem ret_vw {ds : List PyData} : RV.ret (.vw ds) = false := rfl
theorem gh_vw {ds : List PyData} : RV.gh (.vw ds) = true := rfl
theorem lst_vw {ds : List PyData} : RV.lst? (.vw ds) = some ds := rfl
theorem dt_vw {ds : List PyData} : RV.dt? (.vw ds) = some (.list ds) := rfl
theorem truth_vw {ds : List PyData} : truth (.vw ds) = some (!ds.isEmpty) := rfl
theorem seqOf_vw {ds : List PyData} : seqOf (.vw ds) = some ds := rfl
theorem slot_al {ds : List PyData} : RV.slot (.al ds) = none := rfl
theorem arg_al {ds : List PyData} : RV.arg (.al ds) = .vw ds := rfl
theorem argG_al {ds : List PyData} : argG (.al ds) = none := rfl
theorem ret_al {ds : List PyData} : RV.ret (.al ds) = false := rfl
theorem gh_al {ds : List PyData} : RV.gh (.al ds) = false := rfl
theorem lst_al {ds : List PyData} : RV.lst? (.al ds) = some ds := rfl
theorem dt_al {ds : List PyData} : RV.dt? (.al ds) = some (.list ds) := rfl
theorem truth_al {ds : List PyData} : truth (.al ds) = some (!ds.isEmpty) := rfl
theorem seqOf_al {ds : List PyData} : seqOf (.al ds) = some ds := rfl
theorem slot_obj {p : V → Prop} : RV.slot (.obj p) = some (.obj p) := rfl
theorem arg_obj {p : V → Prop} : RV.arg (.obj p) = .obj p := rfl
theorem argG_obj {p : V → Prop} : argG (.obj p) = some (.obj p) := rfl
theorem ret_obj {p : V → Prop} : RV.ret (.obj p) = false := rfl
theorem gh_obj {p : V → Prop} : RV.gh (.obj p) = true := rfl
theorem lst_obj {p : V → Prop} : RV.lst? (.obj p) = none := rfl
theorem dt_obj {p : V → Prop} : RV.dt? (.obj p) = none := rfl
theorem truth_tup {ds : List PyData} : truth (.dat (.tuple ds)) = some (!ds.isEmpty) := rfl
theorem seqOf_tup {ds : List PyData} : seqOf (.dat (.tuple ds)) = some ds := rfl
theorem truth_bool {b : Bool} : truth (.dat (.bool b)) = some b := rfl
theorem truth_int {b : Int} : truth (.dat (.int b)) = some (b != 0) := rfl
theorem truth_none : truth (.dat .none) = some false := rfl
theorem datas_nil : datas [] = some [] := rfl
theorem datas_cons {d : PyData} {r : List RV} : datas (.dat d :: r) = (datas r).map (d :: ·) := rfl
theorem go_nm {j : Nat} {d : PyData} : Tgt.go (.nm j) d = setsG [j] [d] := rfl
theorem go_tp {js : List Nat} {ds : List PyData} : Tgt.go (.tp js) (.tuple ds) = setsG js ds := rfl
theorem sets_nil : setsG [] [] Γ = some Γ := rfl
theorem sets_cons {j : Nat} {js : List Nat} {d : PyData} {ds : List PyData} : setsG (j :: js) (d :: ds) Γ = if j < Γ.length then setsG js ds (Γ.set j (some (.dat d))) else none := rfl
theorem at_0 {α : Type} {v0 : α} {l : List α} : atI (v0 :: l) 0 = some v0 := atI_nat (j := 0) rfl
theorem at_1 {α : Type} {v0 v1 : α} {l : List α} : atI (v0 :: v1 :: l) 1 = some v1 := atI_nat (j := 1) rfl
theorem at_2 {α : Type} {v0 v1 v2 : α} {l : List α} : atI (v0 :: v1 :: v2 :: l) 2 = some v2 := atI_nat (j := 2) rfl
theorem at_3 {α : Type} {v0 v1 v2 v3 : α} {l : List α} : atI (v0 :: v1 :: v2 :: v3 :: l) 3 = some v3 := atI_nat (j := 3) rfl
theorem at_4 {α : Type} {v0 v1 v2 v3 v4 : α} {l : List α} : atI (v0 :: v1 :: v2 :: v3 :: v4 :: l) 4 = some v4 := atI_nat (j := 4) rfl
theorem at_5 {α : Type} {v0 v1 v2 v3 v4 v5 : α} {l : List α} : atI (v0 :: v1 :: v2 :: v3 :: v4 :: v5 :: l) 5 = some v5 := atI_nat (j := 5) rfl
theorem at_6 {α : Type} {v0 v1 v2 v3 v4 v5 v6 : α} {l : List α} : atI (v0 :: v1 :: v2 :: v3 :: v4 :: v5 :: v6 :: l) 6 = some v6 := atI_nat (j := 6) rfl
theorem at_last {α : Type} {l : List α} {v : α} : atI (l ++ [v]) (-1) = some v := atI_last l v
theorem dpair {d e : PyData} {q : PyData → Prop} : (∃ x, some e = some x ∧ q x) = q e := by simp
theorem sz_0 : (0 ≤ sizeLine) = True := by rw [sizeLine_eq]; exact eq_true (by decide)
theorem sz_1 : (1 ≤ sizeLine) = True := by rw [sizeLine_eq]; exact eq_true (by decide)
theorem sz_2 : (2 ≤ sizeLine) = True := by rw [sizeLine_eq]; exact eq_true (by decide)
theorem sz_3 : (3 ≤ sizeLine) = True := by rw [sizeLine_eq]; exact eq_true (by decide)
theorem sz_4 : (4 ≤ sizeLine) = True := by rw [sizeLine_eq]; exact eq_true (by decide)
theorem sz_5 : (5 ≤ sizeLine) = True := by rw [sizeLine_eq]; exact eq_true (by decide)
theorem sz_6 : (6 ≤ sizeLine) = True := by rw [sizeLine_eq]; exact eq_true (by decide)
theorem sz_7 : (7 ≤ sizeLine) = True := by rw [sizeLine_eq]; exact eq_true (by decide)
theorem sz_8 : (8 ≤ sizeLine) = True := by rw [sizeLine_eq]; exact eq_true (by decide)
theorem ite_and2 {a b : Bool} {A B : Prop} : (if a = true then (if b = true then A else B) else B) = (if (a && b) = true then A else B) := by
  cases a <;> cases b <;> rfl
theorem fall_app2 {α : Type} {f : α → PyData} {p : α → Prop} {q : PyData → Prop} : (∀ b a, p a → f a = b → q b) ↔ ∀ a, p a → q (f a) := ⟨fun h a pa => h _ a pa rfl, fun h b a pa e => e ▸ h a pa⟩
theorem size_ok {n : Nat} (h : n < 100000) : n < sizeLine := Nat.lt_of_lt_of_le h (by rw [sizeLine_eq]; decide)
theorem size_le {n : Nat} (h : n ≤ 100000) : n ≤ sizeLine := Nat.le_trans h (by rw [sizeLine_eq]; decide)
theorem bo_len : bootBuiltins "len" = some (.builtin "len") := by decide +kernel
theorem bo_abs : bootBuiltins "abs" = some (.builtin "abs") := by decide +kernel
theorem bo_max : bootBuiltins "max" = some (.builtin "max") := by decide +kernel
theorem bo_min : bootBuiltins "min" = some (.builtin "min") := by decide +kernel
theorem bo_sum : bootBuiltins "sum" = some (.builtin "sum") := by decide +kernel
theorem bo_isinstance : bootBuiltins "isinstance" = some (.builtin "isinstance") := by decide +kernel
theorem bo_int : bootBuiltins "int" = some (.type "int") := by decide +kernel
theorem bo_list : bootBuiltins "list" = some (.type "list") := by decide +kernel
theorem bo_tuple : bootBuiltins "tuple" = some (.type "tuple") := by decide +kernel
theorem bo_bool : bootBuiltins "bool" = some (.type "bool") := by decide +kernel
theorem bo_str : bootBuiltins "str" = some (.type "str") := by decide +kernel
end
end Ab

namespace Ab
open PySem PySem.Spec PyProof.Rows L2
section
variable {X : Cx} {c : Ctx} {a b d tg : Expr} {A B C : XE} {p pos : Pos}
/-! ### ranges downwards -/
def downD (i j : Int) : List PyData := (List.range (i - j).toNat).map fun k => .int (i - (k : Nat))
theorem downD_get {a b : Int} {k : Nat} {d : PyData} : (downD a b)[k]? = some d ↔ d = .int (a - (k : Nat)) ∧ k < (a - b).toNat := by
  unfold downD
  rw [List.getElem?_map]
  by_cases h : k < (a - b).toNat
  · rw [List.getElem?_range h]
    simp [h, eq_comm]
  · rw [List.getElem?_eq_none (by simpa using h)]
    simp [h]
theorem downD_len {a b : Int} : (downD a b).length = (a - b).toNat := by simp [downD]
theorem yl_down (i j : Int) : Yl c (Itc i (-1) (i - j).toNat) (fun _ => True) (downD i j) where
  go := fun k H _ hk => by
    rw [downD_len] at hk
    exact hk
  stop := fun k H _ hk => by
    rw [downD_len] at hk
    exact hk
  yld := fun k H x H' _ hk ⟨e1, e2⟩ => by
    subst e1 e2
    rw [downD_len] at hk
    exact ⟨Fx.refl H', True.intro, .int (i - (k : Nat)), downD_get.mpr ⟨rfl, hk⟩, by rw [show i + ((k : Nat) : Int) * -1 = i - (k : Nat) by omega]; exact .int _, rfl⟩
def aIR3 (A B C : XE) : XI := fun Γ P => A Γ fun x => B Γ fun y => C Γ fun z => ∃ i j, x = .dat (.int i) ∧ y = .dat (.int j) ∧ z = .dat (.int (-1)) ∧ -(2 ^ 62) ≤ i ∧ i < 2 ^ 62 ∧ -(2 ^ 62) ≤ j ∧ j < 2 ^ 62 ∧ P (downD i j) true
theorem ai_r3 (hg : Gl X "range") (hm : X.mg "range" = none) (ha : PEa X c a A) (hb : PEa X c b B) (hd : PEa X c d C) (hs : starEach [a, b, d] X.env = [(false, eval a X.env), (false, eval b X.env), (false, eval d X.env)] := by rfl) (hs2 : starEach [b, d] X.env = [(false, eval b X.env), (false, eval d X.env)] := by rfl) (hs3 : starEach [d] X.env = [(false, eval d X.env)] := by rfl) (h0 : starEach ([] : List Expr) X.env = [] := by rfl) :
    PIa X c tg (.Call (.Name "range" p) [a, b, d] [] pos) (aIR3 A B C) :=
  ⟨pi_imp (pi_range3 hg hm (pa_cons ha.pe (pa_cons hb.pe (pa_cons hd.pe pa_nil (by rw [hs3, h0])) (by rw [hs2, hs3])) (by rw [hs, hs2])) (by rw [hs, hs2]) (by rw [hs2]; rfl)) fun σ H R ⟨Γ, P, at_, p, k⟩ => by
    refine ⟨Γ, _, at_, p, fun v H1 r f1 at1 r1 q1 => ⟨Γ, _, at1, q1, fun u H2 r' f2 at2 r2 q2 => ⟨Γ, _, at2, q2, fun w H3 r'' f3 at3 r3 ⟨i, j, e, e', e'', h1, h2, h3, h4, q⟩ => ?_⟩⟩⟩
    subst e e' e''
    cases r1.ro.int
    cases r2.ro.int
    cases r3.ro.int
    exact ⟨i, j, -1, _, rfl, RgC.neg h1 h2 h3 h4, k _ H3 (downD i j) true (fun _ => True) ((f1.trans f2).trans f3) at3 True.intro (fun _ _ _ _ _ => True.intro) (fun _ => ghost_nil) (yl_down i j) q⟩⟩
/-! ### an int or None -/
def optD : Option Int → PyData
  | none => .none
  | some i => .int i
theorem optD_none : optD none = .none := rfl
theorem optD_some {i : Int} : optD (some i) = .int i := rfl
theorem sh_opt {o : Option Int} : SeqAt.shaped (optD o) = true := by cases o <;> rfl
theorem eqv_opt {o q : Option Int} : PyData.eqv (optD o) (optD q) = decide (o = q) := by
  cases o with
  | none =>
    cases q with
    | none => rfl
    | some j => rfl
  | some i =>
    cases q with
    | none => rfl
    | some j =>
      show PyData.eqv (.int i) (.int j) = _
      rw [eqv_ii]
      exact decide_eq_decide.mpr (by rw [Option.some.injEq])
theorem eq_opt {o q : Option Int} {P : RV → Prop} : oEq (.dat (optD o)) (.dat (optD q)) P = P (.dat (.bool (decide (o = q)))) := by
  unfold oEq
  simp [RV.dt?, sh_opt, eqv_opt]
theorem ne_opt {o q : Option Int} {P : RV → Prop} : oNe (.dat (optD o)) (.dat (optD q)) P = P (.dat (.bool (!decide (o = q)))) := by
  unfold oNe
  simp [RV.dt?, sh_opt, eqv_opt]
theorem none_opt {o : Option Int} : isNone (optD o) = o.isNone := by cases o <;> rfl
/-! ### try, where nothing is raised -/
theorem st_thru {body : List Stmt} {h₀ : ExceptHandler} {hs : List ExceptHandler} {S : XS} (hn : ∀ e s, ¬ X.xe e s) (hb : PSts X c body S) : PSt X c (.Try body (h₀ :: hs) [] [] pos) S :=
  ⟨ps_imp (ps_try_never hn hb.ps pss_nil) fun E σ H h => h⟩
/-! ### not in, of a list -/
def oNin : XO := fun x y P => ∃ d ds, x.dt? = some d ∧ y.lst? = some ds ∧ SeqAt.shaped d = true ∧ SeqAt.shaped (.list ds) = true ∧ P (.dat (.bool (!ds.any fun z => PyData.eqv z d)))
def oIn : XO := fun x y P => ∃ d ds, x.dt? = some d ∧ y.lst? = some ds ∧ SeqAt.shaped d = true ∧ SeqAt.shaped (.list ds) = true ∧ P (.dat (.bool (ds.any fun z => PyData.eqv z d)))
theorem units65 {k : Nat} {A : Around} (r : Room k A) : A.units + 65 < cLine := by have := r.un; omega
theorem oa_nin (hu : X.A.units + 65 < cLine) (hK : X.K = c.K := by rfl) : OpA X c (compareOp .NotIn) oNin := ⟨opR_imp (op_notInD hu) fun x y H Q ⟨rx, ry, P, _, r1, r2, ⟨d, ds, e1, e2, s1, s2, p⟩, k⟩ => by
  rw [hK]
  exact ⟨d, ds, r1.dt e1, (RO.dp r2).2 ds e2, s1, s2, k _ H _ (Fx.refl H) (rr_bl _) p⟩⟩
theorem oa_in (hu : X.A.units + 65 < cLine) (hK : X.K = c.K := by rfl) : OpA X c (compareOp .In) oIn := ⟨opR_imp (op_inD hu) fun x y H Q ⟨rx, ry, P, _, r1, r2, ⟨d, ds, e1, e2, s1, s2, p⟩, k⟩ => by
  rw [hK]
  exact ⟨d, ds, r1.dt e1, (RO.dp r2).2 ds e2, s1, s2, k _ H _ (Fx.refl H) (rr_bl _) p⟩⟩
end
end Ab

namespace Ab
open PySem PySem.Spec PyProof.Rows L2
/-! ### a callee may take all that stands for its base -/
def hidF (H : Hp) (l : List Env) : Hp := fun b => if b ∈ frs l then some (.tbl #[]) else H b
def newBase (h : Heap) (H : Hp) (l : List Env) : Heap := hidT h (hidF H l)
theorem newBase_get {h : Heap} {H : Hp} {l : List Env} {b : Addr} {o : Obj} (e : h.get? b = some o) (n : H b = none) (f : b ∉ frs l) : (newBase h H l).get? b = some o :=
  hidT_get e (by unfold hidF; rw [if_neg f]; exact n)
theorem of_newBase {h : Heap} {H : Hp} {l : List Env} {b : Addr} {o : Obj} (e : (newBase h H l).get? b = some o) : h.get? b = some o ∧ H b = none ∧ b ∉ frs l := by
  obtain ⟨e1, e2⟩ := of_hidT e
  unfold hidF at e2
  by_cases hb : b ∈ frs l
  · rw [if_pos hb] at e2; cases e2
  · rw [if_neg hb] at e2; exact ⟨e1, e2, hb⟩
theorem frs_base {h base b2 : Heap} : ∀ {l l' : List Env}, h.FunFrames base l → (∀ b ∈ frs l, b2.get? b = none) → h.FunFrames b2 l
  | [], _, _, _ => trivial
  | env :: l, l', ⟨hk, ⟨L, o, hf, hn, ho, hd⟩, hr⟩, k => by
    have hL : L ∈ frs (env :: l) := by unfold frs; rw [List.filterMap_cons, hf]; exact List.mem_cons_self
    refine ⟨hk, ⟨L, o, hf, k L hL, ho, hd⟩, frs_base (l' := l) hr fun b hb => k b ?_⟩
    unfold frs
    rw [List.filterMap_cons, hf]
    exact List.mem_cons_of_mem _ hb
theorem rebase {P : Program} {w : World} {K : PySem.W.Frag} {mg : Str → Option Value} {base : Heap} {A : Around} {outer : List Env} {s : Shared} {H : Hp} (e : Env0 P w K mg base A outer s H) : Env0 P w K mg (newBase s.heap H outer) A outer s H := by
  have up : ∀ b o, base.get? b = some o → (newBase s.heap H outer).get? b = some o := fun b o q => newBase_get (e.bs b o q).1 (e.bs b o q).2 fun z => by
    have := (e.funs.mem z).1
    rw [q] at this
    cases this
  refine ⟨e.frames, ⟨e.mod.kin.keeps up, e.mod.glob.keeps up, ?_, e.mod.nolimit.keeps up⟩, fun b o q => ⟨(of_newBase q).1, (of_newBase q).2.1⟩, Nat.le_of_eq (hidT_size _ _), frs_base (l' := outer) e.funs fun b hb => ?_, e.frf, e.hok, e.bare⟩
  · obtain ⟨mb, h1, h2⟩ := e.mod.blt
    exact ⟨mb, h1.keeps up, h2⟩
  · cases q : (newBase s.heap H outer).get? b with
    | none => rfl
    | some o => exact absurd hb (of_newBase q).2.2
/-! ### a lambda's function, by its body -/
abbrev lamF (q : Str) (params : Arguments) (scope : Scope) (cl : List (Str × Addr)) (c' : Addr) : NdefX.NF := ⟨"<lambda>", q, params, [], scope, cl, c'⟩
theorem lam_fn {P : Program} {w : World} {K : PySem.W.Frag} {mg : Str → Option Value} {base : Heap} {f c' : Addr} {q : Str} {params : Arguments} {body : Expr} {scope : Scope} {cl : List (Str × Addr)} {pm ctv : Value} {N ps fr : List Str} {ws : List (Option V)} {k : Nat} {sp : Sp}
    (S : NdefX.NScope N ps fr scope) (of : base.get? f = some (PySem.W.kla_obj "<lambda>" q params body scope cl pm c' ctv)) (oc : base.CodeRec (.ref c') q)
    (C1 : ∀ y c, cl.lookup y = some c → ∃ v, base.IsCell c v) (C2 : ∀ x y c, cl.lookup x = some c → cl.lookup y = some c → x = y) (C3 : ws.length = fr.length)
    (C4 : ∀ (i : Nat) (y : Str), fr[i]? = some y → ∃ c, cl.lookup y = some c ∧ ∀ v, ws[i]? = some (some v) → ∃ u, L2.RelV v u ∧ base.IsCell c (some u)) (lenS : ∀ vs H Q E, sp vs H Q E → vs.length = ps.length)
    (hbody : ∀ (A : Around) (outer : List Env) (s : Shared) (H : Hp) (vs : List V) (Q : VK) (E : XK), Room k (A.deeper (NdefX.envF (lamF q params scope cl c') f s.heap.objs.size)) → sp vs H Q E → ∃ t, PE (NdefX.ncx CX0 P w K mg base N (lamF q params scope cl c') f A outer s H E).nox body t ∧ t (NdefX.startF N vs ws) H Q) :
    FnOk P w K mg base CX0 (k + 1) f (PySem.W.kla_fn "<lambda>" q params body scope cl pm (.ref c') ctv) ps sp := by
  refine ⟨lenS, fun A outer s H args us vs Q E hr e0 hb r hsp => ?_⟩
  have hl := lenS _ _ _ _ hsp
  have lim : s.heap.NoLimit := e0.mod.nolimit.keeps fun b o e => (e0.bs b o e).1
  have cellB : ∀ {c v}, base.IsCell c v → H c = none ∧ s.heap.IsCell c v := fun {c v} ⟨o, ho, hd⟩ => ⟨(e0.bs c o ho).2, o, (e0.bs c o ho).1, hd⟩
  have C : NdefX.CellsAt cl fr ws s.heap H := ⟨C3, fun y c e => by
    obtain ⟨v, z⟩ := C1 y c e
    exact ⟨(cellB z).1, v, (cellB z).2⟩, C2, fun i y e => by
    obtain ⟨c, h1, h2⟩ := C4 i y e
    refine ⟨c, h1, fun v hv => ?_⟩
    obtain ⟨u, g1, g2⟩ := h2 v hv
    exact ⟨u, g1, (cellB g2).2⟩⟩
  have rec' : s.heap.CodeRec (.ref c') q := by
    obtain ⟨c, ob, vs, t, h1, h2, h3⟩ := oc
    exact ⟨c, ob, vs, t, h1, (e0.bs _ _ h2).1, h3⟩
  refine PySem.W.kla_callFunE hr.depth (e0.bs _ _ of).1 rfl S.co S.gen rfl rec' (hb _ _ _ _ ?_)
  refine wpAny_newFunctionEnv S.nocell (fun ⟨n, _⟩ hy => S.par n (List.of_mem_zip hy).1) (fun h₁ hns hsb => ⟨lim.fresh _ hsb, ?_⟩) S.kind
  show codeAny _ _ (.expr body (NdefX.envF (lamF q params scope cl c') f s.heap.objs.size)) _ _
  have kp : ∀ b o, s.heap.get? b = some o → h₁.get? b = some o := fun b o e => hsb.extBut b o (Nat.ne_of_lt (Heap.lt_size e)) (Heap.get?_push_of_some _ e)
  obtain ⟨t, ht, hq⟩ := hbody A outer s H vs Q E (hr.deeper _) hsp
  have I : Inv (NdefX.ncx CX0 P w K mg base N (lamF q params scope cl c') f A outer s H E) [] (NdefX.startF N vs ws) H { s with heap := h₁, toks := s.toks + (ps.zip us).length } := NdefX.inv_startN S hr.hd e0 hl r C hns kp
  refine PySem.W.kla_codeExpr (wpAny_mono ((PE.nox ht).run [] _ _ H Q I hq) (fun v s' hq => ?_) fun e s' hq => hq)
  obtain ⟨w', H', J', rv, q⟩ := hq
  exact ⟨w', H', J'.os, J'.bare, J'.base, J'.hok, rv, q⟩
/-! ### the lambda is made -/
theorem lam_new {X : Cx} {pins : List (Addr × Obj)} {σ : L2.St} {H : Hp} {s : Shared} {c P : Addr} {params : Arguments} {body : Expr} {scope : Scope} {pos : Pos} {E : Value → Shared → Prop} {Q : Value → Shared → Prop} (I : Inv X pins σ H s) (TB : LamX.TabB X.base X.mg c P) (hc : X.env.code = .ref c)
    (hT : LamX.TabS H P (X.env.qual ++ "<lambda>")) (hdef : defaultsOf params X.env = ([], [])) (hfree : ∀ y ∈ scope.names, y.2 = .free → ∃ c, X.env.cells.lookup y.1 = some c)
    (h : ∀ (f c' : Addr) (pm ctv : Value) (H1 : Hp) (s' : Shared), Inv X pins σ H1 s' → (∀ b o, b ≠ P → H b = some o → H1 b = some o) → LamX.TabS H1 P (X.env.qual ++ "<lambda>") →
      s'.heap.get? f = some (PySem.W.kla_obj "<lambda>" (X.env.qual ++ "<lambda>") params body scope (cloFrom X.env.cells scope.names []) pm c' ctv) → H1 f = none → f ≠ X.env.locals → f ∉ X.fs → H1 c' = some (LamX.CodeO c' (X.env.qual ++ "<lambda>")) → Q (.ref f) s') :
    wpAny (model X.prog X.w) X.A (eval (.Lambda params body scope pos) X.env) Q E s := by
  obtain ⟨ts, hP, ok3, codes⟩ := hT
  have stand := I.hok P _ hP
  have bm := TB.bm.keeps I.bk
  have late : ∀ f, s.heap.objs.size ≤ f → f ≠ X.env.locals ∧ f ∉ X.fs := fun f hf => ⟨fun z => by
    have := I.lt
    rw [← z] at this
    exact absurd (Nat.lt_of_lt_of_le this hf) (Nat.lt_irrefl _), I.nofs hf⟩
  refine PySem.W.kla_eval hdef ?_
  cases found : codeAmong pos ts.toList with
  | some cv =>
    obtain ⟨c', rfl, known⟩ := codes pos cv found
    refine PySem.W.kla_makeFunctionHit (closure_ok hfree) I.ok.glob (I.mod.glob.keeps I.bk) hc (TB.code.keeps I.bk) stand ok3 found bm fun ctv h' tk up big => ?_
    have J : Inv X pins σ H { s with heap := h'.push (PySem.W.kla_obj "<lambda>" (X.env.qual ++ "<lambda>") params body scope (cloFrom X.env.cells scope.names []) ((X.mg "__name__").getD .none) c' ctv), toks := tk } := I.kept fun b o e => Heap.get?_push_of_some _ (up b o e)
    exact h _ c' _ ctv H _ J (fun b o _ e => e) ⟨ts, hP, ok3, codes⟩ (Heap.get?_push_size _ rfl) (I.hok.fresh big) (late _ big).1 (late _ big).2 known
  | none =>
    refine PySem.W.kla_makeFunction (closure_ok hfree) I.ok.glob (I.mod.glob.keeps I.bk) hc (TB.code.keeps I.bk) stand ok3 found TB.gP bm fun c' ctv h' tk up c0 c1 cr grown => ?_
    obtain ⟨cc, oc, us, tq, ecc, g1, g2, g3⟩ := cr
    cases ecc
    have big : s.heap.objs.size ≤ h'.objs.size := Nat.le_trans c0 (Nat.le_of_lt c1)
    have un : H c' = none := I.hok.fresh c0
    have J := LamX.inv_table (t' := tk) (more := #[rawInt pos.line, rawInt pos.col, .ref c']) (h' := h'.push (PySem.W.kla_obj "<lambda>" (X.env.qual ++ "<lambda>") params body scope (cloFrom X.env.cells scope.names []) ((X.mg "__name__").getD .none) c' ctv)) I hP (fun b o nb e => Heap.get?_push_of_some _ (up b o nb e)) (Heap.get?_push_of_some _ grown) c0 ⟨oc, us, tq, Heap.get?_push_of_some _ g1, g2, g3⟩
    have rest : ∀ b o, b ≠ P → H b = some o → (upd (upd H P (.tbl (ts ++ #[rawInt pos.line, rawInt pos.col, .ref c']))) c' (LamX.CodeO c' (X.env.qual ++ "<lambda>"))) b = some o := fun b o nb e => by
      rw [upd_ne (ne_of_none e un), upd_ne nb]
      exact e
    refine h _ c' _ ctv _ _ J rest ⟨_, by rw [upd_ne (ne_of_none hP un), upd_same], by rw [Array.toList_append]; exact PySem.TriplesOk_snoc _ _ _ _ ok3, fun p' cv hcv => ?_⟩ (Heap.get?_push_size _ rfl) ?_ (late _ big).1 (late _ big).2 upd_same
    · rw [Array.toList_append] at hcv
      rcases LamX.among_app _ ok3 hcv with z | z
      · obtain ⟨c2, e1, e2⟩ := codes p' cv z
        refine ⟨c2, e1, rest c2 _ (fun q => ?_) e2⟩
        rw [q, hP] at e2
        exact LamX.codeO_ne _ (Option.some.inj e2).symm
      · exact ⟨_, z, upd_same⟩
    · rw [upd_ne (Nat.ne_of_gt c1), upd_ne (Nat.ne_of_gt (Nat.lt_of_lt_of_le (Heap.lt_size stand) big))]
      exact I.hok.fresh big
end Ab

namespace Ab
open PySem PySem.Spec PyProof.Rows L2
/-! ### an address left out of what is tracked, and taken in again -/
def drp (c : Addr) (H : Hp) : Hp := fun b => if b = c then none else H b
theorem drp_ne {c b : Addr} {H : Hp} (h : b ≠ c) : drp c H b = H b := if_neg h
theorem drp_same {c : Addr} {H : Hp} : drp c H c = none := if_pos rfl
theorem drp_none {c b : Addr} {H : Hp} (h : H b = none) : drp c H b = none := by
  unfold drp
  split
  · rfl
  · exact h
theorem drp_some {c b : Addr} {H : Hp} {o : HO} (h : drp c H b = some o) : H b = some o ∧ b ≠ c := by
  unfold drp at h
  by_cases e : b = c
  · rw [if_pos e] at h; cases h
  · rw [if_neg e] at h; exact ⟨h, e⟩
section
variable {P : Program} {w : World} {K : PySem.W.Frag} {mg : Str → Option Value} {base : Heap} {A : Around} {outer : List Env} {s s' : Shared} {H : Hp} {c : Addr} {φ : Heap → Prop}
theorem hok_drp {h : Heap} (ok : HOk P w H h) (hc : H c = some (.ext φ)) : HOk P w (drp c H) h := fun a o e => by
  obtain ⟨e1, _⟩ := drp_some e
  refine (ok a o e1).stay (fun b u _ q => q) (fun b q => ?_) fun b xs q => ?_
  · rw [drp_ne (fun z => by rw [z, hc] at q; cases q)]; exact q
  · rw [drp_ne (fun z => by rw [z, hc] at q; cases q)]; exact q
theorem env0_drp (e : Env0 P w K mg base A outer s H) (hc : H c = some (.ext φ)) : Env0 P w K mg base A outer s (drp c H) :=
  ⟨e.frames, e.mod, fun b o q => ⟨(e.bs b o q).1, drp_none (e.bs b o q).2⟩, e.bsz, e.funs, fun b hb => drp_none (e.frf b hb), hok_drp e.hok hc, e.bare⟩
theorem ce_put {Q : VK} {u : Value} (hok : HOk P w H s.heap) (hc : H c = some (.ext φ)) (hf : c ∉ frs outer) (h : CE outer P w (drp c H) s Q u s') : CE outer P w H s (fun v H3 => ∃ H', H3 = upd H' c (.ext φ) ∧ H' c = none ∧ Q v H') u s' := by
  obtain ⟨v, H', os, bare, un, ok', r, q⟩ := h
  obtain ⟨p1, ⟨ob, p2⟩, p3⟩ := hok c _ hc
  have kc : s'.heap.get? c = some ob := un.keep c ob p2 drp_same hf (by simp)
  have nc : H' c = none := un.free c ob p2 drp_same (by simp)
  have at_ : ∀ {b o}, H' b = some o → upd H' c (.ext φ) b = some o := fun {b o} e => by rw [upd_ne (ne_of_none e nc)]; exact e
  refine ⟨v, _, os, bare, ⟨fun b o e n => un.keep b o e (drp_none n), fun b o e n => un.slot b o e (drp_none n), fun b o e n hx => ?_, un.there, fun b xs e => ?_, fun b o u e => ?_, fun b ps e => ?_⟩, fun a o e => ?_, r, H', rfl, nc, q⟩
  · rw [upd_ne (fun z => by rw [z, hc] at n; cases n)]
    exact un.free b o e (drp_none n) hx
  · exact at_ (un.tups b xs (by rw [drp_ne (fun z => by rw [z, hc] at e; cases e)]; exact e))
  · exact at_ (un.frzs b o u (by rw [drp_ne (fun z => by rw [z, hc] at e; cases e)]; exact e))
  · obtain ⟨more, g⟩ := un.tbls b ps (by rw [drp_ne (fun z => by rw [z, hc] at e; cases e)]; exact e)
    exact ⟨more, at_ g⟩
  · by_cases hb : a = c
    · subst hb
      rw [upd_same] at e
      cases e
      refine ⟨p3 _ _ p1 fun o z => ?_, ⟨ob, kc⟩, p3⟩
      rw [p2] at z
      cases z
      exact kc
    · rw [upd_ne hb] at e
      exact (ok' a o e).stay (fun b u _ q => q) (fun b q => at_ q) fun b xs q => at_ q
end
theorem tex_drp {H : Hp} {c : Addr} {φ : Heap → Prop} (hc : H c = some (.ext φ)) : TEx H (drp c H) := fun a xs r => by
  rcases r with r | ⟨o, r⟩
  · exact .inl (by rw [drp_ne (fun z => by rw [z, hc] at r; cases r)]; exact r)
  · exact .inr ⟨o, by rw [drp_ne (fun z => by rw [z, hc] at r; cases r)]; exact r⟩
theorem argR_drp {K : PySem.W.Frag} {S : List Addr} {H : Hp} {c : Addr} {φ : Heap → Prop} {v : V} {r : RV} (hc : H c = some (.ext φ)) (h : ArgR K S H v r) (hr : r.arg = r) : ArgR K S (drp c H) v r := by
  have sq : ∀ {a xs}, SqL K H a xs → SqL K (drp c H) a xs := fun {a xs} q => by
    rcases q with (q | ⟨o, q⟩) | q
    · exact .inl (.inl (by rw [drp_ne (fun z => by rw [z, hc] at q; cases q)]; exact q))
    · exact .inl (.inr ⟨o, by rw [drp_ne (fun z => by rw [z, hc] at q; cases q)]; exact q⟩)
    · exact .inr q
  cases r with
  | dat d => exact ⟨dp_mono (tex_drp hc) d v h.2 h.1, h.2⟩
  | vw ds =>
    obtain ⟨x, vs, rfl, h2, h0, h3, h4, h5⟩ := h
    exact ⟨x, vs, rfl, h2, sq h0, sq h3, dpAll_mono (tex_drp hc) _ _ h5 h4, h5⟩
  | obj p => exact h
  | new ds => cases hr
  | al ds => cases hr
theorem arg_arg {r : RV} : r.arg.arg = r.arg := by cases r <;> rfl
/-! ### a function that was handed in: its promise -/
theorem TEx.trans {H1 H2 H3 : Hp} (a : TEx H1 H2) (b : TEx H2 H3) : TEx H1 H3 := fun x xs h => b x xs (a x xs h)
theorem TEx.refl (H : Hp) : TEx H H := fun _ _ h => h
def TestOf (P : Program) (w : World) (K : PySem.W.Frag) (mg : Str → Option Value) (base : Heap) (k : Nat) (ps : List Str) (H0 : Hp) (T : Asp) : V → Prop := fun v => ∃ f fd Hr, v = .ref f ∧ TEx Hr H0 ∧ FnOk P w K mg base CX0 k f fd ps (fun vs H Q E => TEx Hr H ∧ pSp K T vs H Q E) ∧ Binds K fd ps [] ∧ PySem.W.FnAt f base
theorem TestOf.mono {P : Program} {w : World} {K : PySem.W.Frag} {mg : Str → Option Value} {base : Heap} {k : Nat} {ps : List Str} {H0 H1 : Hp} {T : Asp} {v : V} (h : TestOf P w K mg base k ps H0 T v) (e : TEx H0 H1) : TestOf P w K mg base k ps H1 T v := by
  obtain ⟨f, fd, Hr, h1, h2, h3⟩ := h
  exact ⟨f, fd, Hr, h1, h2.trans e, h3⟩
/-- a pure def's promise, told of the entry heap -/
def hSp (K : PySem.W.Frag) (asp : Hp → Asp) : Sp := fun vs H Q _ => ∃ rs P, Paired (ArgR K [] H) vs rs ∧ asp H rs P ∧ ∀ v H' r, Fx [] H H' → RR (cx0 K [] (fun _ => True) H) H H' v r → r.ret = true → P r → Q v H'
section
variable {X : Cx} {c : Ctx} {e : Expr} {es : List Expr} {L : XA} {p pos : Pos}
theorem back_of {σ : L2.St} {Γ : Gam} {H H1 : Hp} {P : RV → Prop} {Q : VK} (f1 : Fx c.S H H1) (at1 : At c σ H1 Γ) (k : ∀ v H' r, Fx c.S H H' → At c σ H' Γ → RR c H H' v r → P r → Q v H') : ∀ v H2 r, Fx [] H1 H2 → RR (cx0 c.K [] (fun _ => True) H1) H1 H2 v r → r.ret = true → P r → Q v H2 := fun v H2 r f2 rr hr pr => by
  refine k v H2 r (f1.trans f2.nil) (at1.ext f2) ?_ pr
  cases r with
  | dat d => exact rr
  | new ds =>
    obtain ⟨x, vs, rfl, h1, h2, h3, h4, h5⟩ := rr
    have n := (at1.fresh h1).1
    exact ⟨x, vs, rfl, f1.free n h1, n, h3, h4, h5⟩
  | vw ds => cases hr
  | al ds => cases hr
  | obj q => cases hr
def aCallT (B : Asp → V → Prop) (i : Nat) (L : XA) : XE := fun Γ P => ∃ p T, Γ[i]? = some (some (.obj p)) ∧ (∀ v, p v → B T v) ∧ L Γ fun rs => T (rs.map RV.arg) P
theorem ae_callT (P : Program) (w : World) (K : PySem.W.Frag) (mg : Str → Option Value) (base : Heap) (i : Nat) {k j : Nat} {ps : List Str} {x : Str} (hr : Room j X.A) (hk : k ≤ j) (ha : PAa X c (e :: es) L) (hN : X.N[i]? = some x := by rfl) (hv : Vis X.env.scope x := by first | exact .inl rfl | exact .inr (.inl rfl) | exact .inr (.inr rfl)) (hdb : (x == ("__debug__" : Str)) = false := by decide) (hcd : (x == ("__classdict__" : Str)) = false := by decide)
    (he : starEach (e :: es) X.env = (false, eval e X.env) :: starEach es X.env := by rfl) (hpl : (backTo pos (starEach es X.env)).any (·.1) = false := by rfl) (hK : X.K = c.K := by rfl)
    (x1 : X.prog = P := by rfl) (x2 : X.w = w := by rfl) (x3 : X.K = K := by rfl) (x4 : X.mg = mg := by rfl) (x5 : X.base = base := by rfl) :
    PEa X c (.Call (.Name x p) (e :: es) [] pos) (aCallT (TestOf P w K mg base k ps c.H0) i L) := by
  subst x1 x2 x3 x4 x5
  refine ⟨⟨fun pins s σ H Q I h => ?_⟩⟩
  obtain ⟨Γ, P, at_, ⟨p0, T, hi, hp, hl⟩, kont⟩ := h
  obtain ⟨v, hs, hpv⟩ := at_.slot i _ hi
  obtain ⟨f, fd, Hr, ev, tx, F, hb, fa⟩ := hp v hpv
  subst ev
  refine wpAny_Call_Name_kw (thn ((pe_var (pos := p) hN hv hdb hcd).run pins s σ H (fun v H1 => v = .ref f ∧ H1 = H) I ⟨.ref f, hs, rfl, rfl⟩) fun u s1 ⟨v, H1, I1, r1, q1⟩ => ?_)
  obtain ⟨rfl, rfl⟩ := q1
  cases r1
  have fnat : ∀ {s2 : Shared} {H2 : Hp}, Inv X pins σ H2 s2 → PySem.W.FnAt f s2.heap := fun {s2 H2} I2 => by
    obtain ⟨oc, od, gd, sl, z⟩ := fa
    exact ⟨oc, od, gd, sl, I2.bk _ _ z⟩
  have main : gA c L σ H1 (fun vs H2 => TEx Hr H2 ∧ pSp c.K T vs H2 Q E0) := ⟨Γ, _, at_, hl, fun vs H2 rs f2 at2 r2 q => ⟨tx.trans at2.kp.tup, rs.map RV.arg, P, argRs_of (T := []) (fun _ h => by simp at h) r2, q, back_of f2 at2 kont⟩⟩
  refine PySem.W.callWith_F (first := []) (fnat I1) (thn (ha.pa.run pos pins s1 σ H1 _ I1 main) fun us s2 ⟨vs, H2, I2, r, q⟩ => ⟨fnat I2, ?_⟩) he hpl
  rw [← hK] at q
  exact run_fn (dvs := []) (ds := []) (CX := CX0) F (hr.mono hk) hb .nil pass0 I2 r (by rw [List.append_nil]; exact q)
/-- a call of a def that is handed a function, within a def that was handed it -/
def aCallH (Bc : Asp → V → Prop) (asp : (Asp → V → Prop) → Asp) (L : XA) : XE := fun Γ P => L Γ fun rs => ∀ B : Asp → V → Prop, (∀ T v, Bc T v → B T v) → asp B (rs.map RV.arg) P
theorem ae_callH {CX : CXT} {asp : (Asp → V → Prop) → Asp} {k kt : Nat} {f : Addr} {fd : FuncData} {ps pt : List Str} {x : Str} {E : XK} (F : FnOk X.prog X.w X.K X.mg X.base CX k f fd ps (hSp X.K fun H => asp (TestOf X.prog X.w X.K X.mg X.base kt pt H))) (hr : Room k X.A) (hg : Gl X x) (hm : X.mg x = some (.ref f)) (hk : PySem.W.keepIn X.K (.ref f) = true) (hb : Binds X.K fd ps [])
    (hx : Passes CX X E) (ha : PAa X c (e :: es) L) (hdb : (x == ("__debug__" : Str)) = false := by decide) (he : starEach (e :: es) X.env = (false, eval e X.env) :: starEach es X.env := by rfl) (hpl : (backTo pos (starEach es X.env)).any (·.1) = false := by rfl)
    (hK : X.K = c.K := by rfl) : PEa X c (.Call (.Name x p) (e :: es) [] pos) (aCallH (TestOf X.prog X.w X.K X.mg X.base kt pt c.H0) asp L) :=
  ⟨pe_imp (pe_call F hr hg hm hk hb .nil hx ha.pa hdb he hpl) fun σ H Q ⟨Γ, P, at_, hl, kont⟩ => by
    refine ⟨Γ, _, at_, hl, fun vs H1 rs f1 at1 r1 q => ?_⟩
    show hSp X.K _ (vs ++ []) H1 Q E
    rw [List.append_nil]
    refine ⟨rs.map RV.arg, P, ?_, q _ fun T v h => h.mono at1.kp.tup, ?_⟩
    · rw [hK]
      exact argRs_of (T := []) (fun _ h => by simp at h) r1
    · rw [hK]
      exact back_of f1 at1 kont⟩
end
theorem def_h {P : Program} {w : World} {K : PySem.W.Frag} {mg : Str → Option Value} {base : Heap} {x qual : Str} {st : Stmt} {f : Addr} {fd : FuncData} {N ps : List Str} {k : Nat} {asp : Hp → Asp} (F : Fun K x qual st f fd) (Sc : FnScope N ps (defScope st)) (hlen : ∀ H rs P, asp H rs P → rs.length = ps.length)
    (hbody : ∀ (cdv : Value) (A : Around) (outer : List Env) (s : Shared) (H : Hp) (E : XK), Room k (A.deeper (envOfC qual (defScope st) s.heap.objs.size f cdv)) → ∃ B, PSts (cxOf CX0 P w K mg base N qual (defScope st) f cdv A outer s H E).nox (cx0 K [] (fun _ => True) H) (defBody st) B ∧ ∀ rs P, asp H rs P → B (fin P) (gam0 N rs)) :
    FnOk P w K mg base CX0 (k + 1) f fd ps (hSp K asp) := by
  refine F.ok Sc (fun vs H Q E ⟨rs, R, h1, h2, _⟩ => ?_) (fun cdv A outer s H vs Q E hr ⟨rs, R, h1, h2, h3⟩ => ?_)
  · rw [Paired.length h1]
    exact hlen H rs R h2
  · obtain ⟨B, hB, q⟩ := hbody cdv A outer s H E hr
    have a0 := start_at (N := N) (ok_pure K H) h1
    refine ⟨_, hB.ps, gam0 N rs, [], [], fin R, a0.len, by rw [List.append_nil, List.append_nil]; exact a0, q rs R h2, ⟨fun Γ σ H' p hl a => ?_, fun Γ σ H' p => p.elim, fun Γ σ H' p => p.elim, fun v H' r fx j rr ⟨p1, p2⟩ => h3 v H' r fx rr p1 p2⟩⟩
    exact h3 .non H' (.dat .none) a.kp rr_non rfl p
end Ab

namespace Ab
open PySem PySem.Spec PyProof.Rows L2
/-! ### f(lambda x: .., e, ..) -/
def capG (Γ : Gam) (j : Nat) : Option G := match Γ[j]? with
  | some (some (.dat d)) => some (.dat d)
  | _ => none
/-- what the lambda says, of the names' data where it is made -/
def lamT (A : XE) (n : Nat) (js : List Nat) (Γ : Gam) : Asp := fun rs P => ∃ d, rs = [.dat d] ∧ A (some (.dat d) :: (js.map (capG Γ) ++ List.replicate n none)) fun r => r.ret = true ∧ P r
def aCallLam (asp : (Asp → V → Prop) → Asp) (A : XE) (n : Nat) (js : List Nat) (L : XA) : XE := fun Γ P => L Γ fun rs => ∀ B : Asp → V → Prop, asp B (.obj (B (lamT A n js Γ)) :: rs.map RV.arg) fun r => (∃ d, r = .dat d ∧ P r)
structure LamOk (No : List Str) (sc scope : Scope) (N : List Str) (fr : List Str) (js : List Nat) (n : Nat) (y : Str) : Prop where
  ns : NdefX.NScope N [y] fr scope
  len : N.length = 1 + js.length + n
  free : ∀ z ∈ scope.names, z.2 = .free → sc.names.lookup z.1 = some .cell
  inF : ∀ z ∈ fr, (z, NameKind.free) ∈ scope.names
  at_ : js.map (fun j => No[j]?) = fr.map some
theorem paired_map_arg {K : PySem.W.Frag} {S : List Addr} {H : Hp} {c : Addr} {φ : Heap → Prop} (hc : H c = some (.ext φ)) : ∀ {vs : List V} {rs : List RV}, Paired (ArgR K S H) vs (rs.map RV.arg) → Paired (ArgR K S (drp c H)) vs (rs.map RV.arg)
  | _, [], .nil => .nil
  | _, r :: rs, .cons a t => .cons (argR_drp hc a arg_arg) (paired_map_arg hc t)
section
variable {X : Cx} {c : Ctx} {e : Expr} {es : List Expr} {L : XA} {p pos lpos : Pos}
theorem ae_callLam {asp : (Asp → V → Prop) → Asp} {A : XE} {g : Addr} {fd : FuncData} {psg : List Str} {k kl n : Nat} {x y : Str} {cc Pt : Addr} {params : Arguments} {body : Expr} {scope : Scope} {N fr No : List Str} {sc : Scope} {js : List Nat}
    (F : ∀ b', FnOk X.prog X.w X.K X.mg b' CX0 k g fd psg (hSp X.K fun H => asp (TestOf X.prog X.w X.K X.mg b' (kl + 1) [y] H))) (hr : Room k X.A) (hg : Gl X x) (hm : X.mg x = some (.ref g)) (hk : PySem.W.keepIn X.K (.ref g) = true) (hb : Binds X.K fd psg [])
    (TB : LamX.TabB X.base X.mg cc Pt) (hcode : X.env.code = .ref cc) (hJ : ∀ H, c.J H → LamX.TabS H Pt (X.env.qual ++ "<lambda>")) (hJ2 : ∀ H H1, c.J H → LamX.TabS H1 Pt (X.env.qual ++ "<lambda>") → (∀ b o, b ≠ Pt → H b = some o → H1 b = some o) → c.J H1) (hPt : Pt ∈ c.S) (hSx : ∀ H, c.J H → ∀ b ∈ c.S, ∀ φ, H b ≠ some (.ext φ))
    (hNo : X.N = No) (hsc : X.env.scope = sc) (LO : LamOk No sc scope N fr js n y) (hfn : ∀ x, X.fn x = true) (hdef : defaultsOf params X.env = ([], []))
    (hbind : ∀ (q : Str) (cl : List (Str × Addr)) (pm cv ctv u : Value), bindArgs (PySem.W.kla_fn "<lambda>" q params body scope cl pm cv ctv) ⟨[u], []⟩ = pure ([y].zip [u]))
    (hbody : ∀ (b' : Heap) (f c' : Addr) (cl : List (Str × Addr)) (A' : Around) (outer : List Env) (s : Shared) (H : Hp) (E : XK), Room kl (A'.deeper (NdefX.envF (lamF (X.env.qual ++ "<lambda>") params scope cl c') f s.heap.objs.size)) →
      PEa (NdefX.ncx CX0 X.prog X.w X.K X.mg b' N (lamF (X.env.qual ++ "<lambda>") params scope cl c') f A' outer s H E).nox (cx0 X.K [] (fun _ => True) H) body A)
    (ha : PAa X c (e :: es) L) (hdb : (x == ("__debug__" : Str)) = false := by decide)
    (he0 : starEach (.Lambda params body scope lpos :: e :: es) X.env = (false, eval (.Lambda params body scope lpos) X.env) :: starEach (e :: es) X.env := by rfl)
    (hpl0 : (backTo pos (starEach (e :: es) X.env)).any (·.1) = false := by rfl) (hK : X.K = c.K := by rfl) :
    PEa X c (.Call (.Name x p) (.Lambda params body scope lpos :: e :: es) [] pos) (aCallLam asp A n js L) := by
  subst hNo hsc
  refine ⟨⟨fun pins s σ H Q I h => ?_⟩⟩
  obtain ⟨Γ, P, at0, hl, kont⟩ := h
  refine wpAny_Call_Name_kw (ld_glob I hg hm ?_ hdb)
  refine PySem.W.callWith_K (h₀ := X.base) I.ok.mod.kin hk ?_ he0 hpl0
  rw [he0]
  show wpAny _ _ (spliced ((false, eval (.Lambda params body scope lpos) X.env) :: backTo pos (starEach (e :: es) X.env))) _ _ s
  have hfree : ∀ z ∈ scope.names, z.2 = .free → ∃ a, X.env.cells.lookup z.1 = some a := fun z hz ez => I.ok.has _ (.inl (LO.free z hz ez))
  refine Calls.spliced_cons (lam_new I TB hcode (hJ H at0.J) hdef hfree fun f c' pm ctv H1 s1 I1 grow T1 of nf f1 f2 hc1 => ?_)
  have fx1 : Fx c.S H H1 := ⟨fun a o na e => grow a o (fun z => na (by rw [z]; exact hPt)) e, fun a xs r => by
    have nP : ∀ {o}, H a = some o → (∀ ps, o ≠ .tbl ps) → a ≠ Pt := fun {o} e q z => by
      obtain ⟨ts, hP, _⟩ := hJ H at0.J
      rw [z, hP] at e
      exact q ts (Option.some.inj e).symm
    rcases r with r | ⟨o, r⟩
    · exact .inl (grow a _ (nP r fun _ z => by cases z) r)
    · exact .inr ⟨o, grow a _ (nP r fun _ z => by cases z) r⟩⟩
  have at1 := at0.grow fx1 (hJ2 H H1 at0.J T1 grow)
  -- the other arguments; the function is pinned
  have I1p : Inv X ((f, _) :: pins) σ H1 s1 := ⟨I1.ok, I1.os, I1.bare, I1.base, I1.loc, I1.cell, I1.free, I1.freeC, fun q hq => by
    rcases List.mem_append.mp hq with hq | hq
    · exact I1.pin q (List.mem_append.mpr (.inl hq))
    · rcases List.mem_cons.mp hq with hq | hq
      · subst hq
        exact ⟨of, nf, f1, f2, fun v z => by cases z⟩
      · exact I1.pin q (List.mem_append.mpr (.inr hq)), I1.hok, I1.len⟩
  have unpin : ∀ {H2 s2}, Inv X ((f, PySem.W.kla_obj "<lambda>" (X.env.qual ++ "<lambda>") params body scope (cloFrom X.env.cells scope.names []) pm c' ctv) :: pins) σ H2 s2 → Inv X pins σ H2 s2 := fun I2 => ⟨I2.ok, I2.os, I2.bare, I2.base, I2.loc, I2.cell, I2.free, I2.freeC, fun q hq => by
    rcases List.mem_append.mp hq with hq | hq
    · exact I2.pin q (List.mem_append.mpr (.inl hq))
    · exact I2.pin q (List.mem_append.mpr (.inr (List.mem_cons_of_mem _ hq))), I2.hok, I2.len⟩
  have hq : X.env.qual ++ "<lambda>" = X.env.qual ++ "<lambda>" := rfl
  refine thn (ha.pa.run pos _ s1 σ H1 (fun vs H2 => ∃ rs, Fx c.S H1 H2 ∧ At c σ H2 Γ ∧ RRs c H1 H2 vs rs ∧ ∀ B : Asp → V → Prop, asp B (.obj (B (lamT A n js Γ)) :: rs.map RV.arg) fun r => (∃ d, r = .dat d ∧ P r)) I1p ⟨Γ, _, at1, hl, fun vs H2 rs f2 at2 r2 q => ⟨rs, f2, at2, r2, q⟩⟩) fun us s2 ⟨vs, H2, I2p, rv, rs, fx2, at2, r2, q⟩ => ?_
  have I2 := unpin I2p
  obtain ⟨of2, nf2, _, _, _⟩ := I2p.pin _ (List.mem_append.mpr (.inr List.mem_cons_self))
  have hc2 : H2 c' = some (LamX.CodeO c' (X.env.qual ++ "<lambda>")) := fx2.keep _ _ (fun z => hSx H1 at1.J c' z _ hc1) hc1
  have hfr : f ∉ frs X.stack := fun z => by
    rcases List.mem_cons.mp (I2.stkSub _ z) with z | z
    · exact f1 z
    · exact f2 z
  have hcf : c' ∉ frs X.stack := fun z => by
    have := I2.stkFree _ z
    rw [hc2] at this
    cases this
  refine ⟨I2.kIn, ?_⟩
  -- the callee's base: all that stands
  obtain ⟨b', eb⟩ : ∃ b', b' = newBase s2.heap (drp c' H2) X.stack := ⟨_, rfl⟩
  have e1 := env0_drp I2.env0 hc2
  have e2 := rebase e1
  rw [← eb] at e2
  have inB : ∀ {a o}, s2.heap.get? a = some o → drp c' H2 a = none → a ∉ frs X.stack → b'.get? a = some o := fun {a o} h1 h2 h3 => by rw [eb]; exact newBase_get h1 h2 h3
  have hfree2 : ∀ z ∈ scope.names, z.2 = .free → ∃ a, X.env.cells.lookup z.1 = some a := fun z hz ez => I2.ok.has _ (.inl (LO.free z hz ez))
  have cm : ∀ {z a}, (cloFrom X.env.cells scope.names []).lookup z = some a → X.env.cells.lookup z = some a := fun {z a} h => NdefX.clo_cm hfree2 h
  have caps : NdefX.CellsAt (cloFrom X.env.cells scope.names []) fr (js.map (NdefX.slotAt σ)) s2.heap H2 := NdefX.cells_of I2 (NdefX.Caps.made I2.ok (fun z hz ez => .inl (LO.free z hz ez)) LO.inF LO.at_)
  have cellB : ∀ {z a v}, (cloFrom X.env.cells scope.names []).lookup z = some a → s2.heap.IsCell a v → b'.IsCell a v := fun {z a v} hz ⟨o, ho, hd⟩ => by
    refine ⟨o, inB ho (drp_none (I2.freeC z a (cm hz))) (fun q => ?_), hd⟩
    rcases List.mem_cons.mp (I2.stkSub _ q) with q | q
    · exact I2.cne z a (cm hz) q
    · obtain ⟨_, o2, ho2, _⟩ := I2.ok.funs.mem q
      exact absurd (Nat.lt_of_lt_of_le (Heap.lt_size ho2) (I2.ok.cab z a (hfn z) (cm hz))) (Nat.lt_irrefl _)
  have test : TestOf X.prog X.w X.K X.mg b' (kl + 1) [y] (drp c' H2) (lamT A n js Γ) (.ref f) := by
    refine ⟨f, _, drp c' H2, rfl, TEx.refl _, lam_fn (k := kl) (pm := pm) (ctv := ctv) (params := params) (body := body) (c' := c') (q := X.env.qual ++ "<lambda>") (cl := cloFrom X.env.cells scope.names []) (ws := js.map (NdefX.slotAt σ)) LO.ns (inB of2 (drp_none nf2) hfr) ?_ (fun z a hz => ?_) caps.inj caps.len (fun i z hi => ?_) (fun vs H Q E ⟨_, rs, R, h1, ⟨d, h2, _⟩, _⟩ => ?_) (fun A' outer s H vs Q E hr' ⟨tx, rs, R, h1, ⟨d, h2, hA⟩, h3⟩ => ?_), ?_, ⟨_, _, _, _, inB of2 (drp_none nf2) hfr⟩⟩
    · obtain ⟨cx, oc, us', t, ecx, g1, g2, g3⟩ := NdefX.codeO_at I2.hok hc2
      cases ecx
      exact ⟨c', oc, us', t, rfl, inB g1 drp_same hcf, g2, g3⟩
    · obtain ⟨_, v, hv⟩ := caps.all z a hz
      exact ⟨v, cellB hz hv⟩
    · obtain ⟨a, h1, h2⟩ := caps.has i z hi
      refine ⟨a, h1, fun v hv => ?_⟩
      obtain ⟨u, g1, g2⟩ := h2 v hv
      exact ⟨u, g1, cellB h1 g2⟩
    · subst h2
      exact (Paired.length h1).trans rfl
    · subst h2
      obtain ⟨v, rfl, hv⟩ : ∃ v, vs = [v] ∧ ArgR X.K [] H v (.dat d) := by
        cases h1 with
        | cons a t =>
          cases t
          exact ⟨_, rfl, a⟩
      refine ⟨_, (hbody b' f c' _ A' outer s H E hr').pe, _, _, ?_, hA, fun v' H' r fx at' rr ⟨p1, p2⟩ => h3 v' H' r fx rr p1 p2⟩
      refine ⟨ok_pure _ H, ?_, fun i g e => ?_, fun i j v ds es e1 => ?_, Fx.refl H, True.intro⟩
      · have := LO.len
        unfold NdefX.startF
        simp
        omega
      · cases i with
        | zero =>
          simp only [List.getElem?_cons_zero, Option.some.injEq] at e
          subst e
          exact ⟨v, rfl, hv⟩
        | succ i =>
          rw [List.getElem?_cons_succ] at e
          by_cases hi : i < js.length
          · rw [List.getElem?_append_left (by simpa using hi), List.getElem?_map, List.getElem?_eq_getElem hi, Option.map_some, Option.some.injEq] at e
            obtain ⟨d', g1, g2⟩ : ∃ d', Γ[js[i]]? = some (some (.dat d')) ∧ g = .dat d' := by
              unfold capG at e
              split at e
              · rename_i d' z
                exact ⟨d', z, (Option.some.inj e).symm⟩
              · cases e
            subst g2
            obtain ⟨v', h1', h2'⟩ := at2.slot _ _ g1
            refine ⟨v', ?_, dp_mono ((tex_drp hc2).trans tx) d' v' h2'.2 (by rw [hK]; exact h2'.1), h2'.2⟩
            unfold NdefX.startF
            rw [List.map_cons, List.map_nil, List.cons_append, List.getElem?_cons_succ, List.nil_append, List.getElem?_append_left (by simpa using hi), List.getElem?_map, List.getElem?_eq_getElem hi, Option.map_some, NdefX.slotAt_of h1']
          · rw [List.getElem?_append_right (by simpa using Nat.le_of_not_lt hi), List.getElem?_replicate] at e
            split at e <;> cases e
      · exfalso
        cases i with
        | zero => cases e1
        | succ i =>
          rw [List.getElem?_cons_succ] at e1
          by_cases hi : i < js.length
          · rw [List.getElem?_append_left (by simpa using hi), List.getElem?_map, List.getElem?_eq_getElem hi, Option.map_some, Option.some.injEq] at e1
            unfold capG at e1
            split at e1 <;> cases e1
          · rw [List.getElem?_append_right (by simpa using Nat.le_of_not_lt hi), List.getElem?_replicate] at e1
            split at e1 <;> cases e1
    · exact Binds.all fun us hl => match us, hl with | [u], _ => hbind _ _ _ _ _ u
  have sp : hSp X.K (fun H => asp (TestOf X.prog X.w X.K X.mg b' (kl + 1) [y] H)) (.ref f :: vs) (drp c' H2) (fun v H' => H' c' = none → Q v (upd H' c' (LamX.CodeO c' (X.env.qual ++ "<lambda>")))) E0 := by
    refine ⟨RV.obj (TestOf X.prog X.w X.K X.mg b' (kl + 1) [y] (drp c' H2) (lamT A n js Γ)) :: rs.map RV.arg, _, .cons test (paired_map_arg hc2 (by rw [hK]; exact argRs_of (T := []) (fun _ h => by simp at h) r2)), q _, fun v H' r fx rr hret ⟨d, er, hP⟩ nc => ?_⟩
    subst er
    have t3 : TEx H2 (upd H' c' (LamX.CodeO c' (X.env.qual ++ "<lambda>"))) := fun a xs z => by
      have := fx.tup a xs (tex_drp hc2 a xs z)
      rcases this with z | ⟨o, z⟩
      · exact .inl (by rw [upd_ne (ne_of_none z nc)]; exact z)
      · exact .inr ⟨o, by rw [upd_ne (ne_of_none z nc)]; exact z⟩
    have fx3 : Fx [] H2 (upd H' c' (LamX.CodeO c' (X.env.qual ++ "<lambda>"))) := ⟨fun a o _ e => by
      by_cases ha' : a = c'
      · rw [ha'] at e ⊢
        rw [upd_same, ← hc2]
        exact e
      · rw [upd_ne ha']
        exact fx.keep a o (by simp) (by rw [drp_ne ha']; exact e), t3⟩
    have at3 := at2.ext fx3
    refine kont v _ (.dat d) (fx1.trans (fx2.trans fx3.nil)) at3 ⟨dp_mono (fun a xs z => ?_) d v rr.2 (by rw [← hK]; exact rr.1), rr.2⟩ hP
    rcases z with z | ⟨o, z⟩
    · exact .inl (by rw [upd_ne (ne_of_none z nc)]; exact z)
    · exact .inr ⟨o, by rw [upd_ne (ne_of_none z nc)]; exact z⟩
  have hlen : ((Value.ref f :: us) ++ []).length = psg.length := by
    rw [List.append_nil, ← (F b').len _ _ _ _ sp, List.length_cons, List.length_cons, rv.length]
  refine wpAny_call (codeAny_mono ((F b').run X.A X.stack s2 (drp c' H2) ⟨Value.ref f :: us, []⟩ ((Value.ref f :: us) ++ []) (V.ref f :: vs) _ E0 hr e2 (hb s2 _ I2.kIn hlen) (by rw [List.append_nil]; exact .cons rfl rv) sp) fun r s3 h => ?_)
  cases r with
  | error e => exact (show False from h).elim
  | ok fl =>
    cases fl with
    | next => exact False.elim h
    | brk => exact False.elim h
    | cont => exact False.elim h
    | ret u =>
      have h3 := ce_put I2.hok hc2 hcf h
      obtain ⟨v, H', I3, r3, H4, e4, n4, q4⟩ := I2.after h3
      exact ⟨v, H', I3, r3, by rw [e4]; exact q4 n4⟩
end
end Ab

namespace Ab
open PySem PySem.Spec PyProof.Rows L2
/-! ### a def whose code object is known (it makes lambdas) -/
structure FunT (K : PySem.W.Frag) (x qual : Str) (st : Stmt) (f : Addr) (fd : FuncData) (cc : Addr) : Prop where
  ex : ∃ (oc : Value) (od : Option Addr) (kV doc pm : Value) (an : Option Addr) (ct : Value) (osl : Array (Option Value)),
    fd = PySem.W.fnOf x qual (defArgs st) (defBody st) (defScope st) .none kV doc pm an (.ref cc) ct ∧ K.lookup f = some ⟨oc, od, .func fd, osl⟩ ∧ PySem.W.codeIn K (.ref cc) qual = true
  kp : PySem.W.keepIn K (.ref f) = true
theorem funT_mk {K : PySem.W.Frag} {x qual : Str} {st : Stmt} {f cc : Addr} {oc : Value} {od an : Option Addr} {osl : Array (Option Value)} {kV doc pm ct : Value} (l : K.lookup f = some ⟨oc, od, .func (PySem.W.fnOf x qual (defArgs st) (defBody st) (defScope st) .none kV doc pm an (.ref cc) ct), osl⟩)
    (c : PySem.W.codeIn K (.ref cc) qual = true) (k : PySem.W.keepIn K (.ref f) = true) : FunT K x qual st f (PySem.W.fnOf x qual (defArgs st) (defBody st) (defScope st) .none kV doc pm an (.ref cc) ct) cc := ⟨⟨oc, od, kV, doc, pm, an, ct, osl, rfl, l, c⟩, k⟩
theorem FunT.plain {K : PySem.W.Frag} {x qual : Str} {st : Stmt} {f cc : Addr} {fd : FuncData} (F : FunT K x qual st f fd cc) : Fun K x qual st f fd := by
  obtain ⟨⟨oc, od, kV, doc, pm, an, ct, osl, e, l, c⟩, kp⟩ := F
  exact ⟨⟨oc, od, kV, doc, pm, an, _, ct, osl, e, l, c⟩, kp⟩
theorem FunT.ok {P : Program} {w : World} {K : PySem.W.Frag} {mg : Str → Option Value} {base : Heap} {x qual : Str} {st : Stmt} {f cc : Addr} {fd : FuncData} {N ps : List Str} {k : Nat} {sp : Sp} (F : FunT K x qual st f fd cc) (S : FnScope N ps (defScope st)) (len : ∀ vs H Q E, sp vs H Q E → vs.length = ps.length)
    (hbody : ∀ (A : Around) (outer : List Env) (s : Shared) (H : Hp) (vs : List V) (Q : VK) (E : XK), Room k (A.deeper (envOfC qual (defScope st) s.heap.objs.size f (.ref cc))) → sp vs H Q E →
      ∃ t, PSs (cxOf CX0 P w K mg base N qual (defScope st) f (.ref cc) A outer s H E).nox (defBody st) t ∧ t { nx := fun _ H' => Q .non H', rt := Q } (L2.start N vs) H) : FnOk P w K mg base CX0 (k + 1) f fd ps sp := by
  obtain ⟨⟨oc, od, kV, doc, pm, an, ct, osl, e, l, c⟩, kp⟩ := F
  subst e
  refine ⟨len, fun A outer s H args us vs Q E hr e0 hb r hsp => ?_⟩
  refine LamX.run_ofS l c S hr e0 hb r (len _ _ _ _ hsp) fun hr' => ?_
  obtain ⟨t, h1, h2⟩ := hbody A outer s H vs Q E hr' hsp
  exact ⟨t, PSs.nox h1, h2⟩
theorem def_tab {P : Program} {w : World} {K : PySem.W.Frag} {T : List Addr} {mg : Str → Option Value} {base : Heap} {x qual : Str} {st : Stmt} {f cc : Addr} {fd : FuncData} {N ps : List Str} {k : Nat} {W : Addr → (Hp → Prop) → Prop} {asp : Addr → Asp} (F : FunT K x qual st f fd cc) (Sc : FnScope N ps (defScope st)) (hlen : ∀ a rs P, asp a rs P → rs.length = ps.length)
    (hok : ∀ a J H, W a J → J H → (cx0 K (a :: T) J H).Ok)
    (hbody : ∀ (A : Around) (outer : List Env) (s : Shared) (H : Hp) (E : XK) (a : Addr) (J : Hp → Prop), W a J → J H → Room k (A.deeper (envOfC qual (defScope st) s.heap.objs.size f (.ref cc))) → ∃ B, PSts (cxOf CX0 P w K mg base N qual (defScope st) f (.ref cc) A outer s H E).nox (cx0 K (a :: T) J H) (defBody st) B ∧ ∀ rs P, asp a rs P → B (fin P) (gam0 N rs)) :
    FnOk P w K mg base CX0 (k + 1) f fd ps (dSp K T W asp) := by
  refine F.ok Sc (fun vs H Q E ⟨a, J, rs, R, _, _, h1, h2, _⟩ => ?_) (fun A outer s H vs Q E hr ⟨a, J, rs, R, hW, hJ, h1, h2, h3⟩ => ?_)
  · rw [Paired.length h1]
    exact hlen a rs R h2
  · obtain ⟨B, hB, q⟩ := hbody A outer s H E a J hW hJ hr
    have a0 := start_at (N := N) (hok a J H hW hJ) h1
    refine ⟨_, hB.ps, gam0 N rs, [], [], fin R, a0.len, by rw [List.append_nil, List.append_nil]; exact a0, q rs R h2, ⟨fun Γ σ H' p hl at_ => ?_, fun Γ σ H' p => p.elim, fun Γ σ H' p => p.elim, fun v H' r fx j rr ⟨p1, p2⟩ => h3 v H' r fx j rr p1 p2⟩⟩
    exact h3 .non H' (.dat .none) at_.kp at_.J rr_non rfl p
/-! ### tables of code objects -/
theorem tabS_keep {H H' : Hp} {P : Addr} {q : Str} (t : LamX.TabS H P q) (e : ∀ b o, (∀ xs, o ≠ .lst xs) → H b = some o → H' b = some o) : LamX.TabS H' P q := by
  obtain ⟨ps, h1, h2, h3⟩ := t
  refine ⟨ps, e _ _ (fun xs z => by cases z) h1, h2, fun pos cv hc => ?_⟩
  obtain ⟨c, e1, e2⟩ := h3 pos cv hc
  exact ⟨c, e1, e _ _ (fun xs z => by unfold LamX.CodeO at z; cases z) e2⟩
theorem tabs_keep {H H' : Hp} {T : List (Addr × Str)} (t : LamX.Tabs T H) (e : ∀ b o, (∀ xs, o ≠ .lst xs) → H b = some o → H' b = some o) : LamX.Tabs T H' := fun p hp => tabS_keep (t p hp) e
theorem tabs_one {H H1 : Hp} {T : List (Addr × Str)} {Pt : Addr} {q : Str} (t : LamX.Tabs T H) (hm : (Pt, q) ∈ T) (hu : ∀ p ∈ T, p.1 = Pt → p.2 = q) (t1 : LamX.TabS H1 Pt q) (e : ∀ b o, b ≠ Pt → H b = some o → H1 b = some o) : LamX.Tabs T H1 := fun p hp => by
  by_cases hb : p.1 = Pt
  · rw [hu p hp hb, hb]
    exact t1
  · obtain ⟨ts, hP, _⟩ := t _ hm
    obtain ⟨ps, h1, h2, h3⟩ := t p hp
    refine ⟨ps, e _ _ hb h1, h2, fun pos cv hc => ?_⟩
    obtain ⟨c, e1, e2⟩ := h3 pos cv hc
    refine ⟨c, e1, e _ _ (fun z => ?_) e2⟩
    rw [z, show H Pt = _ from hP] at e2
    exact LamX.codeO_ne _ (Option.some.inj e2).symm
/-! ### the end of a law with tables -/
theorem walk_tab {l : PySem.W.OpenLaw} {n k : Nat} {q : Program} {loose : List Str} {XP : (Str → Option Value) → Heap → Prop} {YP : World → Heap → Prop} {d : DefRec} {K : Params → PySem.W.Frag} {x : Str}
    (hn : l.most = some n) (hn2 : n ≤ sizeLine) (hdf : d.params.defaults = []) (hr : Room k callerA) (hY : ∀ (w : World) (h : Heap), YP w h → (K w.params).In h)
    (F : ∀ (w : World) (mg mb : Str → Option Value) (mean : ExcName → Option Value) (fa : Addr) (h : Heap), YP w h → (K w.params).In h → PyProof.Rows.Top q (PySem.W.looseW q loose) mean mg mb h → h.Ns mainGlobals mg → mg d.name = some (.ref fa) → LamX.LawAtS l w (K w.params) CX0 k n x mg fa h) :
    PySem.W.WalkO q loose XP YP l.row.toRowW d [] (fun f vs => PySem.call f vs) := by
  refine Att.attach_callB hn hdf fun w s₀ s₁ mg mb fa o pm cd doc a vs ns G Y ho hd hcd hmg hobj hints hlen hbits hg => ?_
  have KX := hY w _ Y
  obtain ⟨fd, cs, sp, hT, nT, C, hb, hsp, hF⟩ := F w mg mb _ fa _ Y KX G.T G.T.g hmg
  exact LamX.law_callTs KX G.T.g G.T.b G.T.builtins G.T.nolimit hg hT nT C G.T.bmain hobj hints (Nat.le_trans hlen hn2) hr hF hb (fun H hH hS => hsp H a ns hlen hbits hH hS) fun H e s' z => z
end Ab

namespace Ab
open PySem PySem.Spec PyProof.Rows L2
section
theorem TEx.refl6 (H : Hp) : TEx H H := fun _ _ h => h
theorem TEx.trans6 {H1 H2 H3 : Hp} (a : TEx H1 H2) (b : TEx H2 H3) : TEx H1 H3 := fun x xs h => b x xs (a x xs h)
variable {X : Cx} {c : Ctx} {e a b d tg : Expr} {A B C : XE} {p pos : Pos}
/-! ### enumerate(list) -/
def enumD (ds : List PyData) : List PyData := (List.range ds.length).map fun k => .tuple [.int ((k : Nat) : Int), ds.getD k .none]
theorem enumD_get {ds : List PyData} {k : Nat} {d : PyData} : (enumD ds)[k]? = some d ↔ ∃ y, ds[k]? = some y ∧ d = .tuple [.int ((k : Nat) : Int), y] := by
  unfold enumD
  rw [List.getElem?_map]
  by_cases h : k < ds.length
  · rw [List.getElem?_range h, List.getElem?_eq_getElem h, Option.map_some, Option.some.injEq]
    simp only [List.getD, List.getElem?_eq_getElem h, Option.getD_some, Option.some.injEq, exists_eq_left']
    exact ⟨fun e => e.symm, fun e => e.symm⟩
  · rw [List.getElem?_eq_none (by simpa using h), List.getElem?_eq_none (by omega)]
    simp
theorem enumD_len {ds : List PyData} : (enumD ds).length = ds.length := by simp [enumD]
theorem yl_enum {a : Addr} {H1 : Hp} {ds : List PyData} (hi : immAll ds = true) (hs : Stb c H1 (ZL c H1 a ds)) : Yl c (Ite c.K a) (ZL c H1 a ds) (enumD ds) where
  go := fun i H ⟨⟨vs, h1, h2⟩, _⟩ hk => by
    rw [enumD_len] at hk
    have : i < vs.length := by rw [dpAll_length h2]; exact hk
    exact ⟨vs, vs[i], h1, List.getElem?_eq_getElem this⟩
  stop := fun i H ⟨⟨vs, h1, h2⟩, _⟩ hk => ⟨vs, h1, by rw [dpAll_length h2]; rw [enumD_len] at hk; exact hk⟩
  yld := fun i H x H' ⟨⟨vs, h1, h2⟩, h3⟩ hk ⟨T, y, e, hT, e2, q⟩ => by
    subst e e2
    have f : Fx [] H (upd H T (.tup [.int (i : Nat), y])) := Fx.new hT
    obtain ⟨d, g1, g2⟩ := dpAll_getV h2 (q vs h1)
    have gi := immAll_get hi g1
    refine ⟨f, hs _ _ ⟨⟨vs, h1, h2⟩, h3⟩ f.tup fun a o n _ e => f.keep a o (by simp) e, .tuple [.int (i : Nat), d], enumD_get.mpr ⟨d, g1, rfl⟩, .tup (.inl (.inl upd_same)) (.cons (.int _) (.cons (dp_mono f.tup _ _ gi g2) .nil)), by simp [imm, immAll, gi]⟩
def aIEnum (A : XE) : XI := fun Γ P => A Γ fun x => ∃ ds, x.lst? = some ds ∧ P (enumD ds) false
theorem ai_enumerate {elts : List Expr} {kk : Nat} {tpos : Pos} (hg : Gl X "enumerate") (hm : X.mg "enumerate" = none) (ha : PEa X c e A) (hs : starEach [e] X.env = [(false, eval e X.env)] := by rfl) (h0 : starEach ([] : List Expr) X.env = [] := by rfl) (hK : X.K = c.K := by rfl) :
    PIa X c (.Tuple elts kk tpos) (.Call (.Name "enumerate" p) [e] [] pos) (aIEnum A) :=
  ⟨pi_imp (pi_enum hg hm (pa_cons ha.pe pa_nil (by rw [hs, h0])) hs) fun σ H R ⟨Γ, P, at_, p, k⟩ => by
    rw [hK]
    refine ⟨Γ, _, at_, p, fun v H1 r f1 at1 r1 ⟨ds, es, q⟩ => ?_⟩
    obtain ⟨a, vs, rfl, h2, h3, d1, i1⟩ := r1.ro.lst es
    exact ⟨a, vs, rfl, h3, k _ H1 (enumD ds) false (ZL c H1 a ds) f1 at1 (zl_at h3 h3 d1) (stb_list h2 i1) (fun z => by cases z) (yl_enum i1 (stb_list h2 i1)) q⟩⟩
/-! ### two fors, the inner one over a tuple -/
theorem sets_own : ∀ {js : List Nat} {ds : List PyData} {Γ Γ' : Gam} {j : Nat} {xs : List PyData}, setsG js ds Γ = some Γ' → Γ'[j]? = some (some (.own xs)) → Γ[j]? = some (some (.own xs))
  | [], [], Γ, Γ', j, xs, e, h => by
    cases e
    exact h
  | [], _ :: _, _, _, _, _, e, _ => by cases e
  | _ :: _, [], _, _, _, _, e, _ => by cases e
  | i :: js, d :: ds, Γ, Γ', j, xs, e, h => by
    unfold setsG at e
    split at e
    · rename_i hi
      have := sets_own e h
      by_cases hj : i = j
      · subst hj
        rw [List.getElem?_set_self hi] at this
        cases this
      · rwa [List.getElem?_set_ne hj] at this
    · cases e
theorem go_own {t : Tgt} {d : PyData} {Γ Γ' : Gam} {j : Nat} {xs : List PyData} (e : t.go d Γ = some Γ') (h : Γ'[j]? = some (some (.own xs))) : Γ[j]? = some (some (.own xs)) := by
  cases t with
  | nm k => exact sets_own e h
  | tp js =>
    cases d with
    | tuple ds => exact sets_own e h
    | none => cases e
    | bool _ => cases e
    | int _ => cases e
    | str _ => cases e
    | list _ => cases e
    | dict _ => cases e
def aLc2 (I : XI) (t : Tgt) (T : XT) (A1 : XE) (t1 : Tgt) (T1 : XT) (E : XE) (vs vs1 : List Nat) : XE := fun Γ P => I Γ fun items _ => ∃ Iv : Nat → List PyData → Prop, Iv 0 [] ∧
  (∀ (i : Nat) d, items[i]? = some d → ∀ acc, Iv i acc → ∃ Γ2, t.go d (wipeG Γ vs) = some Γ2 ∧ T Γ2 fun b => if b = true then A1 Γ2 fun r1 => ∃ inner, r1 = .dat (.tuple inner) ∧ ∃ Iw : Nat → List PyData → Prop, Iw 0 acc ∧
    (∀ (j : Nat) d1, inner[j]? = some d1 → ∀ acc, Iw j acc → ∃ Γ3, t1.go d1 (wipeG Γ2 vs1) = some Γ3 ∧ T1 Γ3 fun b => if b = true then E Γ3 fun r => ∃ y, r = .dat y ∧ acc.length < sizeLine ∧ Iw (j + 1) (acc ++ [y]) else Iw (j + 1) acc) ∧
    ∀ acc, Iw inner.length acc → Iv (i + 1) acc else Iv (i + 1) acc) ∧
  ∀ acc, Iv items.length acc → P (.new acc)
theorem lc2_imp {I : XI} {t t1 : Tgt} {T T1 : XT} {A1 E : XE} {vs vs1 : List Nat} (ht : ∀ j ∈ t.slots, j ∈ vs) (ht1 : ∀ j ∈ t1.slots, j ∈ vs1) (σ : L2.St) (H : Hp) (Q : VK) (h : gE c (aLc2 I t T A1 t1 T1 E vs vs1) σ H Q) :
    tLc2 (gI c I) (t.tg c.K) (gT c T) (iSeq c.K (gE c A1)) (t1.tg c.K) (gT c T1) (gE c E) vs vs1 σ H Q := by
  obtain ⟨Γ, P, at_, p, k⟩ := h
  refine ⟨Γ, _, at_, p, fun J H1 items gh Z f1 at1 z1 zs _ yl ⟨Iv, i0, istep, iend⟩ D hD => ?_⟩
  have fr := at1.fresh hD
  have noD : NoSlot σ Γ D := fun j ds e1 e2 => by
    obtain ⟨v, g1, x, ws, g2, _, _, g3, _⟩ := at1.slot j _ e1
    rw [e2] at g1
    cases g1
    cases g2
    rw [hD] at g3
    cases g3
  have f0 : Fx c.S H1 (upd H1 D (.lst [])) := Fx.new hD
  refine ⟨fun i m H' => m = items.length - i ∧ i ≤ items.length ∧ ∃ ds, Iv i ds ∧ LcSt c σ Γ Z H1 D ds H', ⟨items.length, by omega, by omega, [], i0, ⟨[], upd_same, .nil, rfl⟩, at1.new hD, zs _ _ z1 f0.tup fun a o n _ e => f0.keep a o n e, fun a o _ n e => by rw [upd_ne n]; exact e, f0.tup⟩, ?_⟩
  rintro i m H2 ⟨rfl, hi, ds, iv, L2_⟩
  by_cases hlt : i < items.length
  · refine .inr ⟨yl.go i H2 L2_.z hlt, fun H' => ∃ ds, Iv (i + 1) ds ∧ LcSt c σ Γ Z H1 D ds H', fun H' hN => ⟨items.length - (i + 1), by omega, rfl, hlt, hN⟩, fun x H3 hy => ?_⟩
    obtain ⟨f3, z3, d, hd, dp3, id3⟩ := yl.yld i H2 x H3 L2_.z hlt hy
    have L3 : LcSt c σ Γ Z H1 D ds H3 := L2_.fx fr.1 zs f3.nil (L2_.at_.ext f3).J
    obtain ⟨Γ2, et, q⟩ := istep i d hd ds iv
    have atw : At c (wipe σ vs ++ []) H3 (wipeG Γ vs ++ []) := by
      rw [List.append_nil, List.append_nil]
      exact L3.at_.wipe vs
    refine tgt_run (τ := []) (Δ := []) dp3 id3 (by rw [wipe_length, wipeG_len]; exact at_.len) atw et fun σ4 hl4 at4 w4 => ?_
    rw [List.append_nil, List.append_nil] at at4
    have w4' : wipe σ4 vs = wipe σ vs := by rw [w4 vs ht, wipe_wipe]
    have noD4 : NoSlot σ4 Γ2 D := fun j ds e1 e2 => by
      obtain ⟨g1, g2⟩ := wipeG_some (go_own et e1)
      refine noD j ds g1 ?_
      rw [← wipe_out (σ := σ) g2, ← w4', wipe_out g2]
      exact e2
    refine ⟨w4', Γ2, _, at4, q, fun b H5 f5 at5 q5 => ?_⟩
    have L5 : LcSt c σ Γ Z H1 D ds H5 := L3.fx fr.1 zs f5 at5.J
    cases b with
    | false => exact ⟨ds, q5, L5⟩
    | true =>
      refine ⟨Γ2, _, at5, q5, fun v6 H6 r6 f6 at6 rr6 ⟨inner, er, Iw, w0, wstep, wend⟩ => ?_⟩
      subst er
      have L6 : LcSt c σ Γ Z H1 D ds H6 := L5.fx fr.1 zs f6 at6.J
      obtain ⟨a, us, rfl, t6, d6, i6⟩ := rr6.ro.tup
      refine ⟨a, rfl, .inr ⟨⟨us, t6⟩, ?_⟩⟩
      refine ⟨fun j n H' => n = inner.length - j ∧ j ≤ inner.length ∧ ∃ ds, Iw j ds ∧ LcSt c σ Γ Z H1 D ds H' ∧ At c σ4 H' Γ2 ∧ TEx H6 H', ⟨inner.length, by omega, by omega, ds, w0, L6, at6, TEx.refl6 H6⟩, ?_⟩
      rintro j n H7 ⟨rfl, hj, ds7, iw, L7, at7, tx7⟩
      have t7 := sqT_keep tx7 t6
      have d7 := dpAll_mono tx7 _ _ i6 d6
      have hl : us.length = inner.length := dpAll_length d6
      by_cases hjl : j < inner.length
      · refine .inr ⟨⟨us, us[j]'(by omega), t7, List.getElem?_eq_getElem _⟩, fun H' => ∃ ds, Iw (j + 1) ds ∧ LcSt c σ Γ Z H1 D ds H' ∧ At c σ4 H' Γ2 ∧ TEx H6 H', fun H' hN => ⟨inner.length - (j + 1), by omega, rfl, hjl, hN⟩, fun x8 H8 ⟨e8, y8⟩ => ?_⟩
        subst e8
        obtain ⟨d8, g1, g2⟩ := dpAll_getV d7 (y8 us t7)
        have gi := immAll_get i6 g1
        obtain ⟨Γ3, et1, q8⟩ := wstep j d8 g1 ds7 iw
        have atw1 : At c (wipe σ4 vs1 ++ []) H8 (wipeG Γ2 vs1 ++ []) := by
          rw [List.append_nil, List.append_nil]
          exact at7.wipe vs1
        refine tgt_run (τ := []) (Δ := []) g2 gi (by rw [wipe_length, wipeG_len]; exact at7.len) atw1 et1 fun σ9 hl9 at9 w9 => ?_
        rw [List.append_nil, List.append_nil] at at9
        refine ⟨by rw [w9 vs1 ht1, wipe_wipe], Γ3, _, at9, q8, fun b9 H10 f10 at10 q10 => ?_⟩
        have L10 := L7.fx fr.1 zs f10 at10.J
        have at10' := at7.grow f10 at10.J
        cases b9 with
        | false => exact ⟨ds7, q10, L10, at10', tx7.trans6 f10.tup⟩
        | true =>
          refine ⟨Γ3, _, at10, q10, fun y11 H11 r11 f11 at11 rr11 ⟨yd, er, hz, iw'⟩ => ?_⟩
          subst er
          have at11' := at10'.grow f11 at11.J
          obtain ⟨⟨acc, hacc, dacc, iacc⟩, at12, z12, kp12, tx12⟩ := L10.fx fr.1 zs f11 at11.J
          have t12 : TEx H11 (upd H11 D (.lst (acc ++ [y11]))) := tex_lst hacc
          refine ⟨acc, hacc, by rw [dpAll_length dacc]; exact hz, ds7 ++ [yd], iw', ⟨⟨acc ++ [y11], upd_same, dpAll_append (dpAll_mono t12 _ _ iacc dacc) (.cons (dp_mono t12 _ _ rr11.2 rr11.1) .nil), by simp [immAll_append, iacc, immAll, rr11.2]⟩, at12.other fr.2 hacc noD, zs _ _ z12 t12 fun a o n h1 e => ?_, fun a o n nd e => by rw [upd_ne nd]; exact kp12 a o n nd e, fun a xs r => t12 a xs (tx12 a xs r)⟩, at11'.other fr.2 hacc noD4, ((tx7.trans6 f10.tup).trans6 f11.tup).trans6 t12⟩
          rw [upd_ne fun z => h1 (by rw [z]; exact hD)]
          exact e
      · have ej : j = inner.length := by omega
        subst ej
        exact .inl ⟨⟨us, t7, by omega⟩, ds7, wend ds7 iw, L7⟩
  · have e : i = items.length := by omega
    subst e
    refine .inl ⟨yl.stop _ H2 L2_.z (Nat.le_refl _), ?_⟩
    obtain ⟨⟨acc, hacc, dacc, iacc⟩, at2, z2, kp2, tx2⟩ := L2_
    have f2 : Fx c.S H H2 := ⟨fun a o n e => kp2 a o n (ne_of_none (f1.keep a o n e) hD) (f1.keep a o n e), fun a xs r => tx2 a xs (f1.tup a xs r)⟩
    exact k (.ref D) H2 (.new ds) f2 at2 (rr_new (f1.free fr.1 hD) fr.1 hacc dacc iacc) (iend ds iv)
theorem ae_lc2 {elt iter tg1 iter1 : Expr} {ifs ifs1 : List Expr} {scope : Scope} {own : List (Str × Nat)} {vs1 : List Nat} {I : XI} {t t1 : Tgt} {T T1 : XT} {A1 E : XE} (hc : X.calm = true) (hN : X.N.Nodup) (hi : PIa X c tg iter I) (ok : BlkOk X.N X.env.scope scope own) (hv1 : ∀ i ∈ vs1, i ∈ own.map (·.2))
    (hg : ∀ (s : Shared) (H : Hp) (C : Addr) (cl : List (Str × Addr)) (fp : List Addr), PGa (X.blk s H scope (compEnvC scope cl C X.env) fp) c tg t) (ht : ∀ (s : Shared) (H : Hp) (C : Addr) (cl : List (Str × Addr)) (fp : List Addr), PTsa (X.blk s H scope (compEnvC scope cl C X.env) fp) c ifs T)
    (hi1 : ∀ (s : Shared) (H : Hp) (C : Addr) (cl : List (Str × Addr)) (fp : List Addr), PEa (X.blk s H scope (compEnvC scope cl C X.env) fp) c iter1 A1)
    (hg1 : ∀ (s : Shared) (H : Hp) (C : Addr) (cl : List (Str × Addr)) (fp : List Addr), PGa (X.blk s H scope (compEnvC scope cl C X.env) fp) c tg1 t1) (ht1 : ∀ (s : Shared) (H : Hp) (C : Addr) (cl : List (Str × Addr)) (fp : List Addr), PTsa (X.blk s H scope (compEnvC scope cl C X.env) fp) c ifs1 T1)
    (he : ∀ (s : Shared) (H : Hp) (C : Addr) (cl : List (Str × Addr)) (fp : List Addr), PEa (X.blk s H scope (compEnvC scope cl C X.env) fp) c elt E) (hs : ∀ x, foldedSetIterable iter X.env x = pure x := by intro _; rfl) (hs1 : ∀ env x, foldedSetIterable iter1 env x = pure x := by intro _ _; rfl) (hv : ∀ j ∈ t.slots, j ∈ own.map (·.2) := by decide) (hw : ∀ j ∈ t1.slots, j ∈ vs1 := by decide) (hK : X.K = c.K := by rfl) :
    PEa X c (.ListComp elt [⟨tg, iter, ifs, 0⟩, ⟨tg1, iter1, ifs1, 0⟩] scope pos) (aLc2 I t T A1 t1 T1 E (own.map (·.2)) vs1) :=
  ⟨pe_imp (pe_lc2 hc hN hi.pi ok hv1 (fun s H C cl fp => (hg s H C cl fp).pg) (fun s H C cl fp => (ht s H C cl fp).pts) (fun s H C cl fp => pi_seq (hi1 s H C cl fp).pe) (fun s H C cl fp => (hg1 s H C cl fp).pg) (fun s H C cl fp => (ht1 s H C cl fp).pts) (fun s H C cl fp => (he s H C cl fp).pe) hs hs1) fun σ H Q h => by
    have := lc2_imp hv hw σ H Q h
    rw [← hK] at this ⊢
    exact this⟩
/-! ### sorted, of a list of ints; an int of the module -/
def kSorted : XC := fun rs P => ∃ r ds ns, rs = [r] ∧ r.lst? = some ds ∧ intsOf ds = some ns ∧ ∀ ms : List Int, ms.Perm ns → ms.Pairwise (· ≤ ·) → P (.new (ms.map .int))
theorem dpAll_ints {K : PySem.W.Frag} {H : Hp} : ∀ ms : List Int, DpAll K H (ms.map V.int) (ms.map PyData.int)
  | [] => .nil
  | m :: ms => .cons (.int m) (dpAll_ints ms)
theorem ka_sorted (hK : X.K = c.K := by rfl) : CallA X c (.builtin "sorted") kSorted := ⟨callR_imp cr_sortedI fun vs H Q ⟨rs, P, ⟨σ, Γ, at_⟩, h, ⟨r, ds, ns, e, e1, e2, q⟩, k⟩ => by
  subst e
  obtain ⟨v, rfl, ro⟩ := ros_one h
  obtain ⟨a, vs, rfl, _, t1, d1, i1⟩ := ro.lst e1
  cases intsOf_ok d1 e2
  rw [hK]
  refine ⟨a, ns, rfl, t1, fun ms p h1 h2 hp => ?_⟩
  have f : Fx [] H (upd H p (.lst (ms.map V.int))) := Fx.new hp
  exact k _ _ _ f (rr_new hp (at_.fresh hp).1 upd_same (dpAll_ints ms) (immAll_of fun x hx => by
    obtain ⟨m, _, rfl⟩ := List.mem_map.mp hx
    rfl)) (q ms h1 h2)⟩
theorem pe_globI {x : Str} {v : Int} {t : Tok} (hg : Gl X x) (hm : X.mg x = some (.int v t)) (hd : (x == ("__debug__" : Str)) = false := by decide) : PE X (.Name x p) (fun σ H Q => Q (.int v) H) := ⟨fun pins s σ H Q I h => ld_glob I hg hm ⟨.int v, H, I, ⟨t, rfl⟩, h⟩ hd⟩
theorem bo_sorted : bootBuiltins "sorted" = some (.builtin "sorted") := by decide +kernel
end
end Ab

namespace Lw
open PySem PySem.Spec PyProof.Rows L2 Ab
local macro_rules | `(tactic| walk_at "ab") => `(tactic| simp only [Ab.sSeq, Ab.sNil, Ab.sRet, Ab.sRetN, Ab.sDrop, Ab.sBrk, Ab.sCnt, Ab.sIf, Ab.sSet, Ab.sAsgT, Ab.sPar, Ab.sAug, Ab.sApp, Ab.sPut, Ab.aOp, Ab.aTst, Ab.aChain, Ab.aNeg, Ab.aNotV, Ab.aAndV, Ab.aOrV, Ab.tAndA, Ab.tOrA, Ab.tNotA, Ab.aTru, Ab.aIf, Ab.aNil, Ab.aCons, Ab.aTup, Ab.aLst, Ab.aCall, Ab.aCallD, Ab.aBlt, Ab.aSl, Ab.aNoPart, Ab.aPart, Ab.aLRange, Ab.aTy, Ab.aISeq, Ab.aIR1, Ab.aIR2, Ab.aYes, Ab.aLc, Ab.aLc2, Ab.aIEnum, Ab.enumD_get, Ab.enumD_len, Ab.aCallT, Ab.aCallH, Ab.aCallLam, Ab.aIR3, Ab.downD_get, Ab.downD_len, Ab.eq_opt, Ab.ne_opt, Ab.none_opt, Ab.sFor, Ab.sWhile, Ab.sNever,
  Ab.v_zero, Ab.v_succ, Ab.c_eval, Ab.i_eval, Ab.add_ii, Ab.add_ss, Ab.add_tt, Ab.add_ll, Ab.mul_ii, Ab.mul_ti, Ab.mul_li, Ab.eq_ii, Ab.ne_ii, Ab.eq_bb, Ab.eq_bools, Ab.ne_bools, Ab.reps_map, Ab.ne_bb, Ab.is_n, Ab.isn_n, Ab.is_b, Ab.isn_b, Ab.ix_t, Ab.ix_n, Ab.ix_v, Ab.ix_a, Ab.sl_t, Ab.sl_n, Ab.sl_v, Ab.sl_a, Ab.len_t, Ab.len_n, Ab.len_v, Ab.len_a, Ab.len_s, Ab.abs_eval, Ab.int_eval, Ab.max_eval, Ab.min_eval, Ab.list_t, Ab.list_n, Ab.list_v, Ab.list_a, Ab.tuple_t, Ab.tuple_n, Ab.tuple_v, Ab.tuple_a, Ab.sum_eval, Ab.isi_eval, Ab.isi_bool_int, Ab.rangeD_get, Ab.rangeD_len, Ab.nums_bool, Ab.nums_int, and_imp, forall_eq, forall_exists_index, Ab.fall_app2, Ab.sz_0, Ab.sz_1, Ab.sz_2, Ab.sz_3, Ab.sz_4, Ab.sz_5, Ab.sz_6, Ab.sz_7, Ab.sz_8, Ab.cutD_map, Ab.map_get,  List.length_map,  Ab.isi_bool_bool,
  Ab.fin, Ab.gam0, Ab.wipeG, Ab.rv_dat, Ab.rv_vw, Ab.rv_own, Ab.rv_obj, Ab.slot_dat, Ab.arg_dat, Ab.argG_dat, Ab.ret_dat, Ab.gh_dat, Ab.lst_dat, Ab.dt_dat, Ab.slot_new, Ab.arg_new, Ab.argG_new, Ab.ret_new, Ab.gh_new, Ab.lst_new, Ab.dt_new, Ab.truth_new, Ab.seqOf_new, Ab.slot_vw, Ab.arg_vw, Ab.argG_vw, Ab.ret_vw, Ab.gh_vw, Ab.lst_vw, Ab.dt_vw, Ab.truth_vw, Ab.seqOf_vw, Ab.slot_al, Ab.arg_al, Ab.argG_al, Ab.ret_al, Ab.gh_al, Ab.lst_al, Ab.dt_al, Ab.truth_al, Ab.seqOf_al, Ab.slot_obj, Ab.arg_obj, Ab.argG_obj, Ab.ret_obj, Ab.gh_obj, Ab.lst_obj, Ab.dt_obj, Ab.truth_tup, Ab.seqOf_tup, Ab.truth_bool, Ab.truth_int, Ab.truth_none, Ab.datas_nil, Ab.datas_cons, Ab.go_nm, Ab.go_tp, Ab.sets_nil, Ab.sets_cons, Ab.at_0, Ab.at_1, Ab.at_2, Ab.at_3, Ab.at_4, Ab.at_5, Ab.at_6, Ab.at_last,
  List.map_cons, List.map_nil, List.length_cons, List.length_nil, List.replicate, List.cons_append, List.nil_append, List.set_cons_zero, List.set_cons_succ, List.getElem?_cons_zero, List.getElem?_cons_succ, Option.map_some, Option.some.injEq, Option.bind_some, RV.dat.injEq, RV.new.injEq, PyData.int.injEq, PyData.bool.injEq, PyData.tuple.injEq, PyData.str.injEq, exists_eq_left', exists_eq_left, exists_eq_right, exists_and_left, exists_and_right, true_and, and_true, if_true, if_false, reduceCtorEq, false_and, and_false, false_or, or_false, exists_false, decide_true, decide_false, Bool.false_eq_true, ite_true, ite_false, Nat.reduceSub, Nat.reduceAdd, Nat.reduceLT, Nat.lt_add_one, Nat.zero_lt_succ, Nat.succ_lt_succ_iff, Nat.not_lt_zero])
/-! ### the text by places -/
def topS (i : Nat) : Stmt := PySem.Challenge.pw_sumsaid_k06_patterns_of_sets.main.body.getD i (.Pass ⟨0, 0, 0, 0⟩)
abbrev s_greatest_divisor : Stmt := topS 4
abbrev n_greatest_divisor : List Str := ["one", "two"]
theorem sc_greatest_divisor : FnScope n_greatest_divisor ["one", "two"] (defScope s_greatest_divisor) := ⟨rfl, rfl, rfl, by decide +kernel, rfl, by decide +kernel, by decide +kernel⟩
abbrev s_common_multiple : Stmt := topS 5
abbrev n_common_multiple : List Str := ["numbers", "found", "number"]
theorem sc_common_multiple : FnScope n_common_multiple ["numbers"] (defScope s_common_multiple) := ⟨rfl, rfl, rfl, by decide +kernel, rfl, by decide +kernel, by decide +kernel⟩
abbrev s_is_in : Stmt := topS 9
abbrev n_is_in : List Str := ["pattern", "number", "left", "start", "middle", "right"]
theorem sc_is_in : FnScope n_is_in ["pattern", "number"] (defScope s_is_in) := ⟨rfl, rfl, rfl, by decide +kernel, rfl, by decide +kernel, by decide +kernel⟩
abbrev s_shortest : Stmt := topS 10
abbrev n_shortest : List Str := ["row", "length"]
theorem sc_shortest : FnScope n_shortest ["row"] (defScope s_shortest) := ⟨rfl, rfl, rfl, by decide +kernel, rfl, by decide +kernel, by decide +kernel⟩
abbrev s_made : Stmt := topS 11
abbrev n_made : List Str := ["test", "period", "low", "high", "left", "right", "row", "places", "after", "start", "end", "number", "k", "one"]
theorem sc_made : FnScope n_made ["test", "period", "low", "high"] (defScope s_made) := ⟨rfl, rfl, rfl, by decide +kernel, rfl, by decide +kernel, by decide +kernel⟩
abbrev s_rests_row : Stmt := topS 12
abbrev n_rests_row : List Str := ["test", "first", "period", "row", "number"]
theorem sc_rests_row : FnScope n_rests_row ["test", "first", "period"] (defScope s_rests_row) := ⟨rfl, rfl, rfl, by decide +kernel, rfl, by decide +kernel, by decide +kernel⟩
abbrev s_first_unlike : Stmt := topS 13
abbrev n_first_unlike : List Str := ["left", "right", "number"]
theorem sc_first_unlike : FnScope n_first_unlike ["left", "right", "number"] (defScope s_first_unlike) := ⟨rfl, rfl, rfl, by decide +kernel, rfl, by decide +kernel, by decide +kernel⟩
abbrev s_last_unlike : Stmt := topS 14
abbrev n_last_unlike : List Str := ["left", "right", "number"]
theorem sc_last_unlike : FnScope n_last_unlike ["left", "right", "number"] (defScope s_last_unlike) := ⟨rfl, rfl, rfl, by decide +kernel, rfl, by decide +kernel, by decide +kernel⟩
abbrev s_beside : Stmt := topS 15
abbrev n_beside : List Str := ["pattern", "period", "low", "high"]
theorem sc_beside : FnScope n_beside ["pattern"] (defScope s_beside) := ⟨rfl, rfl, rfl, by decide +kernel, rfl, by decide +kernel, by decide +kernel⟩
abbrev s_edges_of : Stmt := topS 16
abbrev n_edges_of : List Str := ["patterns", "period", "low", "pattern", "row"]
theorem sc_edges_of : FnScope n_edges_of ["patterns"] (defScope s_edges_of) := ⟨rfl, rfl, rfl, by decide +kernel, rfl, by decide +kernel, by decide +kernel⟩
abbrev s_union : Stmt := topS 17
abbrev n_union : List Str := ["first", "second", "period", "low", "high"]
theorem sc_union : FnScope n_union ["first", "second"] (defScope s_union) := ⟨rfl, rfl, rfl, by decide +kernel, rfl, by decide +kernel, by decide +kernel⟩
abbrev s_meet : Stmt := topS 18
abbrev n_meet : List Str := ["first", "second", "period", "low", "high"]
theorem sc_meet : FnScope n_meet ["first", "second"] (defScope s_meet) := ⟨rfl, rfl, rfl, by decide +kernel, rfl, by decide +kernel, by decide +kernel⟩
abbrev s_l_draw : Stmt := topS 20
abbrev n_l_draw : List Str := ["_law_state", "_law_limit", "_law_digit", "_law_position", "_law_cell", "_law_mixed"]
theorem sc_l_draw : FnScope n_l_draw ["_law_state", "_law_limit"] (defScope s_l_draw) := ⟨rfl, rfl, rfl, by decide +kernel, rfl, by decide +kernel, by decide +kernel⟩
abbrev s_l_row : Stmt := topS 21
abbrev n_l_row : List Str := ["_law_state", "_law_least", "_law_most", "_law_k"]
theorem sc_l_row : FnScope n_l_row ["_law_state", "_law_least", "_law_most"] (defScope s_l_row) := ⟨rfl, rfl, rfl, by decide +kernel, rfl, by decide +kernel, by decide +kernel⟩
abbrev s_l_short : Stmt := topS 22
abbrev n_l_short : List Str := ["_law_row_here", "_law_k"]
theorem sc_l_short : FnScope n_l_short ["_law_row_here"] (defScope s_l_short) := ⟨rfl, rfl, rfl, by decide +kernel, rfl, by decide +kernel, by decide +kernel⟩
abbrev s_l_in : Stmt := topS 23
abbrev n_l_in : List Str := ["_law_pattern_here", "_law_y", "_law_left", "_law_start", "_law_middle", "_law_right"]
theorem sc_l_in : FnScope n_l_in ["_law_pattern_here", "_law_y"] (defScope s_l_in) := ⟨rfl, rfl, rfl, by decide +kernel, rfl, by decide +kernel, by decide +kernel⟩
abbrev s_l_written : Stmt := topS 24
abbrev n_l_written : List Str := ["_law_pattern_here", "_law_left", "_law_right", "_law_period", "_law_rows", "_law_odd", "_law_late", "_law_start", "_law_end", "_law_y"]
theorem sc_l_written : FnScope n_l_written ["_law_pattern_here"] (defScope s_l_written) := ⟨rfl, rfl, rfl, by decide +kernel, rfl, by decide +kernel, by decide +kernel⟩
abbrev s_l_pattern : Stmt := topS 25
abbrev n_l_pattern : List Str := ["_law_state"]
theorem sc_l_pattern : FnScope n_l_pattern ["_law_state"] (defScope s_l_pattern) := ⟨rfl, rfl, rfl, by decide +kernel, rfl, by decide +kernel, by decide +kernel⟩
abbrev s_l_of : Stmt := topS 26
abbrev n_l_of : List Str := ["_law_first", "_law_second", "_law_kind", "_law_start", "_law_end", "_law_period", "_law_left", "_law_y", "_law_other", "_law_right", "_law_middle"]
theorem sc_l_of : FnScope n_l_of ["_law_first", "_law_second", "_law_kind"] (defScope s_l_of) := ⟨rfl, rfl, rfl, by decide +kernel, rfl, by decide +kernel, by decide +kernel⟩
abbrev s_l_test : Stmt := topS 27
abbrev n_l_test : List Str := ["_law_first", "_law_second", "_law_kind", "_law_y"]
theorem sc_l_test : FnScope n_l_test ["_law_first", "_law_second", "_law_kind", "_law_y"] (defScope s_l_test) := ⟨rfl, rfl, rfl, by decide +kernel, rfl, by decide +kernel, by decide +kernel⟩
abbrev s_law : Stmt := topS 28
abbrev n_law : List Str := ["_law_script", "_law_state", "_law_first", "_law_second", "_law_raw", "_law_other", "_law_one", "_law_k", "_law_y"]
theorem sc_law : FnScope n_law ["_law_script"] (defScope s_law) := ⟨rfl, rfl, rfl, by decide +kernel, rfl, by decide +kernel, by decide +kernel⟩
/-- where the defs stand -/
structure Txt (K : PySem.W.Frag) (mg : Str → Option Value) where
  a_greatest_divisor : Addr
  fd_greatest_divisor : FuncData
  F_greatest_divisor : Fun K "greatest_divisor" "greatest_divisor" s_greatest_divisor a_greatest_divisor fd_greatest_divisor
  m_greatest_divisor : mg "greatest_divisor" = some (.ref a_greatest_divisor)
  b_greatest_divisor : Binds K fd_greatest_divisor ["one", "two"] []
  a_common_multiple : Addr
  fd_common_multiple : FuncData
  F_common_multiple : Fun K "common_multiple" "common_multiple" s_common_multiple a_common_multiple fd_common_multiple
  m_common_multiple : mg "common_multiple" = some (.ref a_common_multiple)
  b_common_multiple : Binds K fd_common_multiple ["numbers"] []
  a_is_in : Addr
  fd_is_in : FuncData
  F_is_in : Fun K "is_in" "is_in" s_is_in a_is_in fd_is_in
  m_is_in : mg "is_in" = some (.ref a_is_in)
  b_is_in : Binds K fd_is_in ["pattern", "number"] []
  a_shortest : Addr
  fd_shortest : FuncData
  F_shortest : Fun K "shortest" "shortest" s_shortest a_shortest fd_shortest
  m_shortest : mg "shortest" = some (.ref a_shortest)
  b_shortest : Binds K fd_shortest ["row"] []
  a_made : Addr
  fd_made : FuncData
  F_made : Fun K "made" "made" s_made a_made fd_made
  m_made : mg "made" = some (.ref a_made)
  b_made : Binds K fd_made ["test", "period", "low", "high"] []
  a_rests_row : Addr
  fd_rests_row : FuncData
  F_rests_row : Fun K "rests_row" "rests_row" s_rests_row a_rests_row fd_rests_row
  m_rests_row : mg "rests_row" = some (.ref a_rests_row)
  b_rests_row : Binds K fd_rests_row ["test", "first", "period"] []
  a_first_unlike : Addr
  fd_first_unlike : FuncData
  F_first_unlike : Fun K "first_unlike" "first_unlike" s_first_unlike a_first_unlike fd_first_unlike
  m_first_unlike : mg "first_unlike" = some (.ref a_first_unlike)
  b_first_unlike : Binds K fd_first_unlike ["left", "right", "number"] []
  a_last_unlike : Addr
  fd_last_unlike : FuncData
  F_last_unlike : Fun K "last_unlike" "last_unlike" s_last_unlike a_last_unlike fd_last_unlike
  m_last_unlike : mg "last_unlike" = some (.ref a_last_unlike)
  b_last_unlike : Binds K fd_last_unlike ["left", "right", "number"] []
  a_beside : Addr
  fd_beside : FuncData
  c_beside : Addr
  t_beside : Addr
  F_beside : FunT K "beside" "beside" s_beside a_beside fd_beside c_beside
  m_beside : mg "beside" = some (.ref a_beside)
  b_beside : Binds K fd_beside ["pattern"] []
  a_edges_of : Addr
  fd_edges_of : FuncData
  F_edges_of : Fun K "edges_of" "edges_of" s_edges_of a_edges_of fd_edges_of
  m_edges_of : mg "edges_of" = some (.ref a_edges_of)
  b_edges_of : Binds K fd_edges_of ["patterns"] []
  a_union : Addr
  fd_union : FuncData
  c_union : Addr
  t_union : Addr
  F_union : FunT K "union" "union" s_union a_union fd_union c_union
  m_union : mg "union" = some (.ref a_union)
  b_union : Binds K fd_union ["first", "second"] []
  a_meet : Addr
  fd_meet : FuncData
  c_meet : Addr
  t_meet : Addr
  F_meet : FunT K "meet" "meet" s_meet a_meet fd_meet c_meet
  m_meet : mg "meet" = some (.ref a_meet)
  b_meet : Binds K fd_meet ["first", "second"] []
  a_l_draw : Addr
  fd_l_draw : FuncData
  F_l_draw : Fun K "_law_draw" "_law_draw" s_l_draw a_l_draw fd_l_draw
  m_l_draw : mg "_law_draw" = some (.ref a_l_draw)
  b_l_draw : Binds K fd_l_draw ["_law_state", "_law_limit"] []
  a_l_row : Addr
  fd_l_row : FuncData
  F_l_row : Fun K "_law_row" "_law_row" s_l_row a_l_row fd_l_row
  m_l_row : mg "_law_row" = some (.ref a_l_row)
  b_l_row : Binds K fd_l_row ["_law_state", "_law_least", "_law_most"] []
  a_l_short : Addr
  fd_l_short : FuncData
  F_l_short : Fun K "_law_short" "_law_short" s_l_short a_l_short fd_l_short
  m_l_short : mg "_law_short" = some (.ref a_l_short)
  b_l_short : Binds K fd_l_short ["_law_row_here"] []
  a_l_in : Addr
  fd_l_in : FuncData
  F_l_in : Fun K "_law_in" "_law_in" s_l_in a_l_in fd_l_in
  m_l_in : mg "_law_in" = some (.ref a_l_in)
  b_l_in : Binds K fd_l_in ["_law_pattern_here", "_law_y"] []
  a_l_written : Addr
  fd_l_written : FuncData
  F_l_written : Fun K "_law_written" "_law_written" s_l_written a_l_written fd_l_written
  m_l_written : mg "_law_written" = some (.ref a_l_written)
  b_l_written : Binds K fd_l_written ["_law_pattern_here"] []
  a_l_pattern : Addr
  fd_l_pattern : FuncData
  F_l_pattern : Fun K "_law_pattern" "_law_pattern" s_l_pattern a_l_pattern fd_l_pattern
  m_l_pattern : mg "_law_pattern" = some (.ref a_l_pattern)
  b_l_pattern : Binds K fd_l_pattern ["_law_state"] []
  a_l_of : Addr
  fd_l_of : FuncData
  F_l_of : Fun K "_law_of" "_law_of" s_l_of a_l_of fd_l_of
  m_l_of : mg "_law_of" = some (.ref a_l_of)
  b_l_of : Binds K fd_l_of ["_law_first", "_law_second", "_law_kind"] []
  a_l_test : Addr
  fd_l_test : FuncData
  F_l_test : Fun K "_law_test" "_law_test" s_l_test a_l_test fd_l_test
  m_l_test : mg "_law_test" = some (.ref a_l_test)
  b_l_test : Binds K fd_l_test ["_law_first", "_law_second", "_law_kind", "_law_y"] []
  a_law : Addr
  fd_law : FuncData
  F_law : Fun K "law" "law" s_law a_law fd_law
  m_law : mg "law" = some (.ref a_law)
  b_law : Binds K fd_law ["_law_script"] []
  z_abs : mg "abs" = none
  z_bool : mg "bool" = none
  z_enumerate : mg "enumerate" = none
  z_int : mg "int" = none
  z_isinstance : mg "isinstance" = none
  z_len : mg "len" = none
  z_list : mg "list" = none
  z_max : mg "max" = none
  z_min : mg "min" = none
  z_range : mg "range" = none
  z_tuple : mg "tuple" = none
  k_MOST_PERIOD : ∃ t, mg "MOST_PERIOD" = some (.int 5000 t)
  k_MOST_MIDDLE : ∃ t, mg "MOST_MIDDLE" = some (.int 20000 t)
  ne_beside_union : t_beside ≠ t_union
  ne_beside_meet : t_beside ≠ t_meet
  ne_union_meet : t_union ≠ t_meet
def Txt.Tb {K : PySem.W.Frag} {mg : Str → Option Value} (T : Txt K mg) : List (Addr × Str) := [(T.t_beside, ((("beside" : Str) ++ ".<locals>.") ++ "<lambda>" : Str)), (T.t_union, ((("union" : Str) ++ ".<locals>.") ++ "<lambda>" : Str)), (T.t_meet, ((("meet" : Str) ++ ".<locals>.") ++ "<lambda>" : Str))]
theorem Txt.mem_beside {K : PySem.W.Frag} {mg : Str → Option Value} (T : Txt K mg) : (T.t_beside, ((("beside" : Str) ++ ".<locals>.") ++ "<lambda>" : Str)) ∈ T.Tb := by simp [Txt.Tb]
theorem Txt.in_beside {K : PySem.W.Frag} {mg : Str → Option Value} (T : Txt K mg) {st : Addr} : T.t_beside ∈ st :: T.Tb.map (·.1) := by simp [Txt.Tb]
theorem Txt.only_beside {K : PySem.W.Frag} {mg : Str → Option Value} (T : Txt K mg) : ∀ p ∈ T.Tb, p.1 = T.t_beside → p.2 = ((("beside" : Str) ++ ".<locals>.") ++ "<lambda>" : Str) := by
  intro p hp e
  unfold Txt.Tb at hp
  simp only [List.mem_cons, List.not_mem_nil, or_false] at hp
  rcases hp with rfl | rfl | rfl
  · rfl
  · exact absurd e.symm T.ne_beside_union
  · exact absurd e.symm T.ne_beside_meet
theorem Txt.mem_union {K : PySem.W.Frag} {mg : Str → Option Value} (T : Txt K mg) : (T.t_union, ((("union" : Str) ++ ".<locals>.") ++ "<lambda>" : Str)) ∈ T.Tb := by simp [Txt.Tb]
theorem Txt.in_union {K : PySem.W.Frag} {mg : Str → Option Value} (T : Txt K mg) {st : Addr} : T.t_union ∈ st :: T.Tb.map (·.1) := by simp [Txt.Tb]
theorem Txt.only_union {K : PySem.W.Frag} {mg : Str → Option Value} (T : Txt K mg) : ∀ p ∈ T.Tb, p.1 = T.t_union → p.2 = ((("union" : Str) ++ ".<locals>.") ++ "<lambda>" : Str) := by
  intro p hp e
  unfold Txt.Tb at hp
  simp only [List.mem_cons, List.not_mem_nil, or_false] at hp
  rcases hp with rfl | rfl | rfl
  · exact absurd e T.ne_beside_union
  · rfl
  · exact absurd e.symm T.ne_union_meet
theorem Txt.mem_meet {K : PySem.W.Frag} {mg : Str → Option Value} (T : Txt K mg) : (T.t_meet, ((("meet" : Str) ++ ".<locals>.") ++ "<lambda>" : Str)) ∈ T.Tb := by simp [Txt.Tb]
theorem Txt.in_meet {K : PySem.W.Frag} {mg : Str → Option Value} (T : Txt K mg) {st : Addr} : T.t_meet ∈ st :: T.Tb.map (·.1) := by simp [Txt.Tb]
theorem Txt.only_meet {K : PySem.W.Frag} {mg : Str → Option Value} (T : Txt K mg) : ∀ p ∈ T.Tb, p.1 = T.t_meet → p.2 = ((("meet" : Str) ++ ".<locals>.") ++ "<lambda>" : Str) := by
  intro p hp e
  unfold Txt.Tb at hp
  simp only [List.mem_cons, List.not_mem_nil, or_false] at hp
  rcases hp with rfl | rfl | rfl
  · exact absurd e T.ne_beside_meet
  · exact absurd e T.ne_union_meet
  · rfl
section
variable {P : Program} {w : World} {K : PySem.W.Frag} {mg : Str → Option Value} {base : Heap}
/-! ### greatest_divisor -/
def a_greatest_divisor : Asp := fun rs P => ∃ a b : Nat, rs = [.dat (.int (a : Int)), .dat (.int (b : Int))] ∧ P (.dat (.int (Nat.gcd a b : Nat)))
set_option maxHeartbeats 8000000 in
theorem ok_greatest_divisor (T : Txt K mg) : FnOk P w K mg base CX0 1 T.a_greatest_divisor T.fd_greatest_divisor ["one", "two"] (pSp K a_greatest_divisor) := by
  refine def_pure (N := n_greatest_divisor) (k := 0) T.F_greatest_divisor sc_greatest_divisor (by intro rs R h; unfold a_greatest_divisor at h; repeat (first | (obtain ⟨rfl, _⟩ := h; rfl) | (obtain ⟨_, h⟩ := h))) (fun cdv A outer s H E hr => ⟨_, (ss_cons (st_while PassesOwn.never (at_tru (ae_var 1))
      (ss_one (st_par 0 1 rfl sc_greatest_divisor.nd (ae_var 1) (ae_op oa_mod (ae_var 0) (ae_var 1)))))
    (ss_one (st_ret (ae_blt ka_abs (by rfl) T.z_abs bo_abs (aa_cons (ae_var 0) aa_nil))))), fun rs R h => ?_⟩)
  obtain ⟨a, b, rfl, q⟩ := h
  walk_at "ab"
  refine ⟨fun m Γ => ∃ x : Nat, Γ = [some (.dat (.int (x : Int))), some (.dat (.int (m : Int)))] ∧ Nat.gcd x m = Nat.gcd a b, ⟨b, a, rfl, rfl⟩, ?_⟩
  rintro m Γ ⟨x, rfl, hg⟩
  walk_at "ab"
  by_cases hm : m = 0
  · subst hm
    rw [if_neg (by simp)]
    rw [Nat.gcd_zero_right] at hg
    rw [if_neg (by omega), hg]
    exact q
  · rw [if_pos (by simp; omega)]
    refine ⟨by omega, x % m, Nat.mod_lt _ (by omega), m, ?_, ?_⟩
    · rw [fmod_pos (by omega)]
      simp
    · rw [← hg, Nat.gcd_comm x m, Nat.gcd_rec m x, Nat.gcd_comm]
/-! ### common_multiple -/
/-! #### lcms -/
/-! common multiples -/
def lcms (m : Nat) : List Nat → Nat
  | [] => m
  | n :: ns => lcms (Nat.lcm m n) ns
theorem lcms_append (m : Nat) : ∀ (ns : List Nat) (n : Nat), lcms m (ns ++ [n]) = Nat.lcm (lcms m ns) n := fun ns => by
  induction ns generalizing m with
  | nil => intro n; rfl
  | cons x xs ih => intro n; exact ih (Nat.lcm m x) n
theorem lcms_dvd : ∀ (ns : List Nat) (m : Nat), m ∣ lcms m ns
  | [], m => Nat.dvd_refl m
  | n :: ns, m => Nat.dvd_trans (Nat.dvd_lcm_left m n) (lcms_dvd ns _)
theorem lcms_mem : ∀ (ns : List Nat) (m n : Nat), n ∈ ns → n ∣ lcms m ns
  | x :: xs, m, n, h => by
    rcases List.mem_cons.mp h with e | e
    · subst e
      exact Nat.dvd_trans (Nat.dvd_lcm_right m n) (lcms_dvd xs _)
    · exact lcms_mem xs _ n e
theorem lcms_least : ∀ (ns : List Nat) (m k : Nat), m ∣ k → (∀ n ∈ ns, n ∣ k) → lcms m ns ∣ k
  | [], _, _, h, _ => h
  | x :: xs, m, k, h, hs => lcms_least xs _ k (Nat.lcm_dvd h (hs x (by simp))) fun n hn => hs n (by simp [hn])
theorem lcms_pos : ∀ (ns : List Nat) (m : Nat), 0 < m → (∀ n ∈ ns, 0 < n) → 0 < lcms m ns
  | [], _, h, _ => h
  | x :: xs, m, h, hs => lcms_pos xs _ (Nat.lcm_pos h (hs x (by simp))) fun n hn => hs n (by simp [hn])
theorem lcms_step {ns : List Nat} {i n : Nat} (h : ns[i]? = some n) : lcms 1 (ns.take (i + 1)) = Nat.lcm (lcms 1 (ns.take i)) n := by
  rw [List.take_add_one, h, Option.toList_some, lcms_append]
theorem lcms_take_le {ns : List Nat} {i : Nat} (hs : ∀ n ∈ ns, 0 < n) : lcms 1 (ns.take i) ≤ lcms 1 ns := by
  refine Nat.le_of_dvd (lcms_pos ns 1 (by omega) hs) (lcms_least _ 1 _ (Nat.one_dvd _) fun n hn => lcms_mem ns 1 n (List.mem_of_mem_take hn))
def natD (ns : List Nat) : List PyData := ns.map fun n : Nat => .int (n : Int)
def a_common_multiple : Asp := fun rs P => ∃ ns : List Nat, rs = [.vw (natD ns)] ∧ (∀ n ∈ ns, 0 < n ∧ n ≤ 100000) ∧ lcms 1 ns ≤ 10000000 ∧ P (.dat (.int (lcms 1 ns : Nat)))
set_option maxHeartbeats 8000000 in
theorem ok_common_multiple (T : Txt K mg) : FnOk P w K mg base CX0 2 T.a_common_multiple T.fd_common_multiple ["numbers"] (pSp K a_common_multiple) := by
  refine def_pure (N := n_common_multiple) (k := 1) T.F_common_multiple sc_common_multiple (by intro rs R h; unfold a_common_multiple at h; repeat (first | (obtain ⟨rfl, _⟩ := h; rfl) | (obtain ⟨_, h⟩ := h))) (fun cdv A outer s H E hr => ⟨_, (ss_cons (st_set 1 sc_common_multiple.nd ae_int)
    (ss_cons (st_for PassesOwn.never rfl (ai_seq (ae_var 0)) (ag_name 2 sc_common_multiple.nd)
      (ss_one (st_set 1 sc_common_multiple.nd (ae_op oa_fdiv (ae_op oa_mul (ae_var 1) (ae_blt ka_abs (by rfl) T.z_abs bo_abs (aa_cons (ae_var 2) aa_nil))) (ae_call (ok_greatest_divisor T) (hr.mono (by decide)) (by rfl) T.m_greatest_divisor T.F_greatest_divisor.kp T.b_greatest_divisor pass0 (aa_cons (ae_var 1) (aa_cons (ae_var 2) aa_nil)))))))
    (ss_one (st_ret (ae_var 1))))), fun rs R h => ?_⟩)
  obtain ⟨ns, rfl, hb, hl, q⟩ := h
  unfold natD
  walk_at "ab"
  refine ⟨fun i Γ => ∃ g, Γ = [some (.vw (natD ns)), some (.dat (.int (lcms 1 (ns.take i) : Nat))), g], ⟨_, rfl⟩, ?_, ?_⟩
  · rintro i n hi Γ ⟨g, rfl⟩
    refine ⟨_, rfl, ?_⟩
    have hn := hb n (List.mem_of_getElem? hi)
    have hm := lcms_take_le (i := i) fun n hn => (hb n hn).1
    have hp := lcms_pos (ns.take i) 1 (by omega) fun n hn => (hb n (List.mem_of_mem_take hn)).1
    obtain ⟨m, em⟩ : ∃ m, m = lcms 1 (ns.take i) := ⟨_, rfl⟩
    rw [← em] at hm hp ⊢
    walk_at "ab"
    rw [if_neg (by omega)]
    refine ⟨cmul_r (by omega) (by omega), m, n, rfl, ?_⟩
    have gp : 0 < Nat.gcd m n := Nat.gcd_pos_of_pos_left _ hp
    walk_at "ab"
    have e : (m : Int) * (n : Int) / (Nat.gcd m n : Nat) = (Nat.lcm m n : Nat) := by
      rw [← Int.natCast_mul, ← Int.natCast_ediv]
      rfl
    refine ⟨cdiv_pos (by omega) ?_, ?_⟩
    · have := Nat.gcd_le_right (n := n) m (by omega)
      omega
    · rw [fdiv_pos (by omega), e]
      refine ⟨some (.dat (.int (n : Int))), ?_⟩
      rw [lcms_step hi, ← em]
  · rintro Γ ⟨g, rfl⟩
    walk_at "ab"
    rw [List.take_of_length_le (Nat.le_refl _)]
    exact q
/-! ### is_in -/
/-! #### rows -/
/-- a row of truth values, repeated -/
def rowAt (bs : List Bool) (y : Int) : Bool := bs.getD (y % bs.length).toNat false
def bools (bs : List Bool) : PyData := .tuple (bs.map .bool)
/-! #### pat -/
/-- a pattern: left, start, middle, right -/
structure Pat where
  left : List Bool
  start : Int
  mid : List Bool
  right : List Bool
def patD (p : Pat) : PyData := .tuple [bools p.left, .int p.start, bools p.mid, bools p.right]
def Pat.fin (p : Pat) : Int := p.start + p.mid.length
def inP (p : Pat) (y : Int) : Bool := if y < p.start then rowAt p.left y else if y < p.fin then p.mid.getD (y - p.start).toNat false else rowAt p.right y
structure Pat.Ok (p : Pat) : Prop where
  l0 : p.left ≠ []
  r0 : p.right ≠ []
  ll : p.left.length ≤ 1000
  rl : p.right.length ≤ 1000
  ml : p.mid.length ≤ 30000
  s0 : -1000000 ≤ p.start
  s1 : p.start ≤ 1000000
def a_is_in : Asp := fun rs P => ∃ (p : Pat) (n : Int), rs = [.dat (patD p), .dat (.int n)] ∧ p.Ok ∧ P (.dat (.bool (inP p n)))
set_option maxHeartbeats 8000000 in
theorem ok_is_in (T : Txt K mg) : FnOk P w K mg base CX0 1 T.a_is_in T.fd_is_in ["pattern", "number"] (pSp K a_is_in) := by
  refine def_pure (N := n_is_in) (k := 0) T.F_is_in sc_is_in (by intro rs R h; unfold a_is_in at h; repeat (first | (obtain ⟨rfl, _⟩ := h; rfl) | (obtain ⟨_, h⟩ := h))) (fun cdv A outer s H E hr => ⟨_, (ss_cons (st_asgT (ae_var 0) (ag_tup rfl (ags_cons 2 sc_is_in.nd (ags_cons 3 sc_is_in.nd (ags_cons 4 sc_is_in.nd (ags_cons 5 sc_is_in.nd ags_nil))))))
    (ss_cons (st_if (at_cmp oa_lt (ae_var 1) (ae_var 3))
      (ss_one (st_ret (ae_ix (ae_var 2) (ae_op oa_mod (ae_var 1) (ae_blt ka_len (by rfl) T.z_len bo_len (aa_cons (ae_var 2) aa_nil))))))
      ss_nil)
    (ss_cons (st_if (at_cmp oa_lt (ae_var 1) (ae_op oa_add (ae_var 3) (ae_blt ka_len (by rfl) T.z_len bo_len (aa_cons (ae_var 4) aa_nil))))
      (ss_one (st_ret (ae_ix (ae_var 4) (ae_op oa_sub (ae_var 1) (ae_var 3)))))
      ss_nil)
    (ss_one (st_ret (ae_ix (ae_var 5) (ae_op oa_mod (ae_var 1) (ae_blt ka_len (by rfl) T.z_len bo_len (aa_cons (ae_var 5) aa_nil))))))))), fun rs R h => ?_⟩)
  obtain ⟨p, n, rfl, ⟨l0, r0, ll, rl, ml, s0, s1⟩, q⟩ := h
  have L0 : (0 : Int) < p.left.length := by have := List.length_pos_iff.mpr l0; omega
  have R0 : (0 : Int) < p.right.length := by have := List.length_pos_iff.mpr r0; omega
  unfold inP Pat.fin at q
  unfold patD bools
  walk_at "ab"
  by_cases c1 : n < p.start
  · rw [if_pos c1] at q
    simp only [c1, decide_true, if_true]
    rw [fmod_pos L0]
    exact ⟨by omega, _, atI_map.mpr ⟨_, atI_getD (Int.emod_nonneg _ (by omega)) (Int.emod_lt_of_pos _ L0) false, rfl⟩, q⟩
  · rw [if_neg c1] at q
    simp only [c1, decide_false, Bool.false_eq_true, if_false]
    by_cases c2 : n < p.start + p.mid.length
    · rw [if_pos c2] at q
      simp only [c2, decide_true, if_true]
      exact ⟨_, atI_map.mpr ⟨_, atI_getD (by omega) (by omega) false, rfl⟩, q⟩
    · rw [if_neg c2] at q
      simp only [c2, decide_false, Bool.false_eq_true, if_false]
      rw [fmod_pos R0]
      exact ⟨by omega, _, atI_map.mpr ⟨_, atI_getD (Int.emod_nonneg _ (by omega)) (Int.emod_lt_of_pos _ R0) false, rfl⟩, q⟩
/-! ### shortest -/
/-! #### prim -/
/-! rows that are as short as possible; patterns written in just one way -/
def Per (f : Int → Bool) (L : Nat) : Prop := ∀ y, f (y + (L : Nat)) = f y
theorem Per.mul {f : Int → Bool} {L : Nat} (h : Per f L) : ∀ (k : Nat) (y : Int), f (y + ((k * L : Nat) : Int)) = f y
  | 0, y => by simp
  | k + 1, y => by
    have := h (y + ((k * L : Nat) : Int))
    rw [h.mul k y] at this
    rw [← this]
    congr 1
    rw [Nat.succ_mul]
    omega
theorem Per.neg {f : Int → Bool} {L : Nat} (h : Per f L) (k : Nat) (y : Int) : f (y - ((k * L : Nat) : Int)) = f y := by
  have := h.mul k (y - ((k * L : Nat) : Int))
  rw [← this]
  congr 1
  omega
theorem Per.int {f : Int → Bool} {L : Nat} (h : Per f L) (k : Int) (y : Int) : f (y + k * (L : Nat)) = f y := by
  by_cases hk : 0 ≤ k
  · obtain ⟨n, e⟩ := Int.eq_ofNat_of_zero_le hk
    subst e
    have := h.mul n y
    rwa [Int.natCast_mul] at this
  · obtain ⟨n, e⟩ := Int.eq_ofNat_of_zero_le (show 0 ≤ -k by omega)
    have e2 : k = -(n : Int) := by omega
    subst e2
    have := h.neg n y
    rw [Int.natCast_mul] at this
    rw [Int.neg_mul, ← Int.sub_eq_add_neg]
    exact this
theorem Per.mod {f : Int → Bool} {L : Nat} (h : Per f L) (y : Int) : f (y % (L : Nat)) = f y := by
  have := h.int (-(y / (L : Nat))) y
  rw [← this]
  congr 1
  have e : y % (L : Int) + L * (y / L) = y := emod_div
  rw [Int.neg_mul, Int.mul_comm (y / (L : Int))]
  omega
theorem Per.of_mul {f : Int → Bool} {L : Nat} (h : Per f L) (k : Nat) : Per f (k * L) := fun y => h.mul k y
theorem Per.gcd {f : Int → Bool} (a b : Nat) : Per f a → Per f b → Per f (Nat.gcd a b) := by
  induction a, b using Nat.gcd.induction with
  | H0 b => intro _ h; rwa [Nat.gcd_zero_left]
  | H1 a b h0 ih =>
    intro ha hb
    rw [Nat.gcd_rec]
    refine ih (fun y => ?_) ha
    have e := ha.mul (b / a) (y + ((b % a : Nat) : Int))
    rw [← e, ← hb y]
    congr 1
    have : b % a + b / a * a = b := by rw [Nat.mul_comm]; exact Nat.mod_add_div b a
    omega
theorem rowAt_per (bs : List Bool) : Per (rowAt bs) bs.length := fun y => by
  unfold rowAt
  have : (y + ((bs.length : Nat) : Int)) % (bs.length : Int) = y % (bs.length : Int) := by simp
  rw [this]
theorem rowAt_nat {bs : List Bool} {k : Nat} (h : k < bs.length) : rowAt bs (k : Int) = bs[k] := by
  unfold rowAt
  rw [Int.emod_eq_of_lt (by omega) (by omega)]
  simp [List.getD, List.getElem?_eq_getElem h]
theorem row_ext {bs cs : List Bool} (hl : bs.length = cs.length) (h : ∀ y, rowAt bs y = rowAt cs y) : bs = cs := by
  apply List.ext_getElem hl
  intro k h1 h2
  rw [← rowAt_nat h1, ← rowAt_nat h2]
  exact h _
structure Prim (bs : List Bool) : Prop where
  ne : bs ≠ []
  min : ∀ L : Nat, 0 < L → Per (rowAt bs) L → bs.length ≤ L
theorem Prim.pos {bs : List Bool} (h : Prim bs) : 0 < bs.length := List.length_pos_iff.mpr h.ne
theorem Prim.unique {bs cs : List Bool} (h : Prim bs) (k : Prim cs) (e : ∀ y, rowAt bs y = rowAt cs y) : bs = cs := by
  have e2 : rowAt bs = rowAt cs := funext e
  refine row_ext (Nat.le_antisymm ?_ ?_) e
  · exact h.min _ k.pos (e2 ▸ rowAt_per cs)
  · exact k.min _ h.pos (e2 ▸ rowAt_per bs)
/-- two periodic sets that agree on a window are one -/
theorem window {f g : Int → Bool} {a b : Nat} (ha : Per f a) (hb : Per g b) (a0 : 0 < a) (b0 : 0 < b) (lo : Int) (h : ∀ y, lo ≤ y → y < lo + (a : Int) * b → f y = g y) : ∀ y, f y = g y := fun y => by
  have pa : Per f (b * a) := ha.of_mul b
  have pb : Per g (a * b) := hb.of_mul a
  have m0 : 0 < a * b := Nat.mul_pos a0 b0
  have e1 := pa.int (-((y - lo) / ((a * b : Nat) : Int))) y
  have e2 := pb.int (-((y - lo) / ((a * b : Nat) : Int))) y
  rw [Nat.mul_comm b a] at e1
  rw [← e1, ← e2]
  have hm : (y - lo) % ((a * b : Nat) : Int) + ((a * b : Nat) : Int) * ((y - lo) / ((a * b : Nat) : Int)) = y - lo := emod_div
  have r0 : 0 ≤ (y - lo) % ((a * b : Nat) : Int) := Int.emod_nonneg _ (by omega)
  have r1 : (y - lo) % ((a * b : Nat) : Int) < ((a * b : Nat) : Int) := Int.emod_lt_of_pos _ (by omega)
  have e3 : y + -((y - lo) / ((a * b : Nat) : Int)) * ((a * b : Nat) : Int) = lo + (y - lo) % ((a * b : Nat) : Int) := by
    rw [Int.neg_mul, Int.mul_comm ((y - lo) / ((a * b : Nat) : Int))]
    omega
  rw [e3]
  refine h _ (by omega) ?_
  rw [Int.natCast_mul] at r1 ⊢
  omega
theorem reps_get {cs : List Bool} (h : cs ≠ []) : ∀ (m i : Nat), i < m * cs.length → (List.replicate m cs).flatten[i]? = cs[i % cs.length]?
  | 0, i, hi => by simp at hi
  | m + 1, i, hi => by
    have L0 := List.length_pos_iff.mpr h
    rw [List.replicate_succ, List.flatten_cons]
    by_cases hc : i < cs.length
    · rw [List.getElem?_append_left hc, Nat.mod_eq_of_lt hc]
    · have e : (m + 1) * cs.length = m * cs.length + cs.length := Nat.succ_mul m _
      rw [List.getElem?_append_right (by omega), reps_get h m (i - cs.length) (by omega)]
      congr 1
      exact (Nat.mod_eq_sub_mod (show i ≥ cs.length by omega)).symm
theorem rowAt_of_nat {bs cs : List Bool} (hb : bs ≠ []) (hp : Per (rowAt cs) bs.length) (h : ∀ i : Nat, i < bs.length → rowAt bs (i : Int) = rowAt cs (i : Int)) : ∀ y, rowAt bs y = rowAt cs y := fun y => by
  have L0 := List.length_pos_iff.mpr hb
  rw [← (rowAt_per bs).mod y, ← hp.mod y]
  have r0 := Int.emod_nonneg y (show (bs.length : Int) ≠ 0 by omega)
  have r1 := Int.emod_lt_of_pos y (show (0 : Int) < bs.length by omega)
  obtain ⟨n, e⟩ := Int.eq_ofNat_of_zero_le r0
  rw [e]
  exact h n (by omega)
theorem rowAt_reps {cs : List Bool} (h : cs ≠ []) {m : Nat} (hm : 0 < m) : ∀ y, rowAt (List.replicate m cs).flatten y = rowAt cs y := by
  have L0 := List.length_pos_iff.mpr h
  have len : (List.replicate m cs).flatten.length = m * cs.length := by
    have := reps_len (k := (m : Int)) (l := cs)
    unfold reps at this
    simpa using this
  have pos : 0 < m * cs.length := Nat.mul_pos hm L0
  refine rowAt_of_nat (by intro z; rw [z] at len; simp at len; omega) (by rw [len]; exact (rowAt_per cs).of_mul m) fun i hi => ?_
  rw [rowAt_nat hi]
  have g := reps_get h m i (by omega)
  rw [List.getElem?_eq_getElem hi] at g
  rw [← (rowAt_per cs).mod]
  have e : ((i : Nat) : Int) % ((cs.length : Nat) : Int) = ((i % cs.length : Nat) : Int) := by simp
  have hl : i % cs.length < cs.length := Nat.mod_lt _ L0
  rw [e, rowAt_nat hl]
  rw [List.getElem?_eq_getElem hl] at g
  exact Option.some.inj g
/-- what is asked of a length by the program -/
def Dv (bs : List Bool) (k : Nat) : Prop := bs.length % k = 0 ∧ bs = (List.replicate (bs.length / k) (bs.take k)).flatten
theorem dv_iff {bs : List Bool} {k : Nat} (h0 : bs ≠ []) (hk : 0 < k) : Dv bs k ↔ k ∣ bs.length ∧ Per (rowAt bs) k := by
  have L0 := List.length_pos_iff.mpr h0
  constructor
  · rintro ⟨h1, h2⟩
    have hd : k ∣ bs.length := Nat.dvd_of_mod_eq_zero h1
    have kle := Nat.le_of_dvd L0 hd
    have tl : (bs.take k).length = k := by rw [List.length_take]; omega
    refine ⟨hd, ?_⟩
    have t0 : bs.take k ≠ [] := by intro z; rw [z] at tl; simp at tl; omega
    have e : rowAt bs = rowAt (bs.take k) := by
      funext y
      have := rowAt_reps t0 (m := bs.length / k) (Nat.div_pos kle hk) y
      rw [← h2] at this
      exact this
    rw [e]
    have := rowAt_per (bs.take k)
    rwa [tl] at this
  · rintro ⟨hd, hp⟩
    have kle := Nat.le_of_dvd L0 hd
    have tl : (bs.take k).length = k := by rw [List.length_take]; omega
    have t0 : bs.take k ≠ [] := by intro z; rw [z] at tl; simp at tl; omega
    refine ⟨Nat.mod_eq_zero_of_dvd hd, ?_⟩
    have len : (List.replicate (bs.length / k) (bs.take k)).flatten.length = bs.length := by
      have := reps_len (k := ((bs.length / k : Nat) : Int)) (l := bs.take k)
      unfold reps at this
      rw [Int.toNat_natCast, tl] at this
      rw [this]
      exact Nat.div_mul_cancel hd
    apply List.ext_getElem len.symm
    intro i h1 h2
    have g := reps_get t0 (bs.length / k) i (by rw [tl, Nat.div_mul_cancel hd]; exact h1)
    rw [List.getElem?_eq_getElem h2, tl] at g
    have hl : i % k < (bs.take k).length := by rw [tl]; exact Nat.mod_lt _ hk
    rw [List.getElem?_eq_getElem hl] at g
    rw [Option.some.inj g, List.getElem_take]
    have hl2 : i % k < bs.length := by rw [tl] at hl; omega
    rw [← rowAt_nat h1, ← rowAt_nat hl2]
    have := hp.mod (i : Int)
    rw [← this]
    congr 1
theorem prim_take {bs : List Bool} {k : Nat} (h0 : bs ≠ []) (hk : 0 < k) (h : Dv bs k) (hm : ∀ j, 0 < j → j < k → ¬ Dv bs j) : Prim (bs.take k) ∧ (∀ y, rowAt (bs.take k) y = rowAt bs y) ∧ (bs.take k).length = k ∧ k ≤ bs.length := by
  have L0 := List.length_pos_iff.mpr h0
  obtain ⟨hd, hp⟩ := (dv_iff h0 hk).mp h
  have kle := Nat.le_of_dvd L0 hd
  have tl : (bs.take k).length = k := by rw [List.length_take]; omega
  have t0 : bs.take k ≠ [] := by intro z; rw [z] at tl; simp at tl; omega
  have e : ∀ y, rowAt (bs.take k) y = rowAt bs y := by
    refine rowAt_of_nat t0 (by rw [tl]; exact hp) fun i hi => ?_
    rw [tl] at hi
    rw [rowAt_nat (by rw [tl]; exact hi), rowAt_nat (by omega), List.getElem_take]
  refine ⟨⟨t0, fun L hL pL => ?_⟩, e, tl, kle⟩
  rw [funext e] at pL
  have pg := Per.gcd _ _ pL (rowAt_per bs)
  have g0 : 0 < Nat.gcd L bs.length := Nat.gcd_pos_of_pos_left _ hL
  have gd : Dv bs (Nat.gcd L bs.length) := (dv_iff h0 g0).mpr ⟨Nat.gcd_dvd_right _ _, pg⟩
  rw [tl]
  have gl : Nat.gcd L bs.length ≤ L := Nat.le_of_dvd hL (Nat.gcd_dvd_left _ _)
  by_cases hc : k ≤ Nat.gcd L bs.length
  · omega
  · exact absurd gd (hm _ g0 (by omega))
theorem dv_self {bs : List Bool} (h0 : bs ≠ []) : Dv bs bs.length := by
  have L0 := List.length_pos_iff.mpr h0
  exact (dv_iff h0 L0).mpr ⟨Nat.dvd_refl _, rowAt_per bs⟩
theorem prim_all {bs : List Bool} (h0 : bs ≠ []) (hm : ∀ j, 0 < j → j < bs.length → ¬ Dv bs j) : Prim bs := by
  have L0 := List.length_pos_iff.mpr h0
  have := (prim_take h0 L0 (dv_self h0) hm).1
  rwa [List.take_of_length_le (Nat.le_refl _)] at this
/-- q is the one way to write the set f -/
structure Wr (f : Int → Bool) (q : Pat) : Prop where
  pl : Prim q.left
  pr : Prim q.right
  form : (q.left = q.right ∧ (∀ y, f y = rowAt q.left y) ∧ q.start = 0 ∧ q.mid = []) ∨
    ∃ a b : Int, f a ≠ rowAt q.left a ∧ (∀ y, y < a → f y = rowAt q.left y) ∧ f (b - 1) ≠ rowAt q.right (b - 1) ∧ (∀ y, b ≤ y → f y = rowAt q.right y) ∧
      ((b ≤ a ∧ q.start = b ∧ q.mid = []) ∨ (a < b ∧ q.start = a ∧ q.mid = (List.range (b - a).toNat).map fun k => f (a + (k : Nat))))
theorem Wr.inP {f : Int → Bool} {q : Pat} (h : Wr f q) : ∀ y, inP q y = f y := fun y => by
  unfold Lw.inP Pat.fin
  rcases h.form with ⟨e, h1, h2, h3⟩ | ⟨a, b, h1, h2, h3, h4, ⟨h5, h6, h7⟩ | ⟨h5, h6, h7⟩⟩
  · rw [h2, h3]
    by_cases c : y < 0
    · rw [if_pos c]; exact (h1 y).symm
    · rw [if_neg c, if_neg (by simp; omega), ← e]; exact (h1 y).symm
  · rw [h6, h7]
    by_cases c : y < b
    · rw [if_pos c]; exact (h2 y (by omega)).symm
    · rw [if_neg c, if_neg (by simp; omega)]; exact (h4 y (by omega)).symm
  · have ml : q.mid.length = (b - a).toNat := by rw [h7]; simp
    rw [h6]
    by_cases c : y < a
    · rw [if_pos c]; exact (h2 y c).symm
    · rw [if_neg c]
      by_cases c2 : y < a + (q.mid.length : Int)
      · rw [if_pos c2, h7]
        have hk : (y - a).toNat < (b - a).toNat := by omega
        rw [List.getD, List.getElem?_map, List.getElem?_range hk]
        show f (a + (((y - a).toNat : Nat) : Int)) = f y
        congr 1
        omega
      · rw [if_neg c2]; exact (h4 y (by omega)).symm
theorem far_eq {f g : Int → Bool} {a b : Nat} (ha : Per f a) (hb : Per g b) (a0 : 0 < a) (b0 : 0 < b) {s : Int → Bool} {z : Int} (hf : ∀ y, y < z → s y = f y) (hg : ∀ y, y < z → s y = g y) : ∀ y, f y = g y :=
  window ha hb a0 b0 (z - (a : Int) * b) fun y _ h2 => (hf y (by omega)).symm.trans (hg y (by omega))
theorem far_eq2 {f g : Int → Bool} {a b : Nat} (ha : Per f a) (hb : Per g b) (a0 : 0 < a) (b0 : 0 < b) {s : Int → Bool} {z : Int} (hf : ∀ y, z ≤ y → s y = f y) (hg : ∀ y, z ≤ y → s y = g y) : ∀ y, f y = g y :=
  window ha hb a0 b0 z fun y h1 _ => (hf y h1).symm.trans (hg y h1)
theorem Wr.left {f : Int → Bool} {q : Pat} (h : Wr f q) : ∃ z : Int, ∀ y, y < z → f y = rowAt q.left y := by
  rcases h.form with ⟨_, h1, _⟩ | ⟨a, b, _, h2, _⟩
  · exact ⟨0, fun y _ => h1 y⟩
  · exact ⟨a, h2⟩
theorem Wr.right {f : Int → Bool} {q : Pat} (h : Wr f q) : ∃ z : Int, ∀ y, z ≤ y → f y = rowAt q.right y := by
  rcases h.form with ⟨e, h1, _⟩ | ⟨a, b, _, _, _, h4, _⟩
  · exact ⟨0, fun y _ => by rw [← e]; exact h1 y⟩
  · exact ⟨b, h4⟩
theorem Wr.unique {f : Int → Bool} {p q : Pat} (h : Wr f p) (k : Wr f q) : p = q := by
  obtain ⟨z1, e1⟩ := h.left
  obtain ⟨z2, e2⟩ := k.left
  obtain ⟨y1, g1⟩ := h.right
  obtain ⟨y2, g2⟩ := k.right
  have el : p.left = q.left := h.pl.unique k.pl (far_eq (rowAt_per _) (rowAt_per _) h.pl.pos k.pl.pos (z := min z1 z2) (fun y hy => e1 y (by omega)) (fun y hy => e2 y (by omega)))
  have er : p.right = q.right := h.pr.unique k.pr (far_eq2 (rowAt_per _) (rowAt_per _) h.pr.pos k.pr.pos (z := max y1 y2) (fun y hy => g1 y (by omega)) (fun y hy => g2 y (by omega)))
  obtain ⟨pl, ps, pm, pr⟩ := p
  obtain ⟨ql, qs, qm, qr⟩ := q
  simp only at el er
  subst el er
  rcases h.form with ⟨a1, a2, a3, a4⟩ | ⟨a, b, a1, a2, a3, a4, a5⟩
  · rcases k.form with ⟨b1, b2, b3, b4⟩ | ⟨c, d, b1, _⟩
    · simp only at a3 a4 b3 b4
      rw [a3, a4, b3, b4]
    · exact absurd (a2 c) b1
  · rcases k.form with ⟨b1, b2, b3, b4⟩ | ⟨c, d, b1, b2, b3, b4, b5⟩
    · exact absurd (b2 a) a1
    · simp only at a1 a2 a3 a4 a5 b1 b2 b3 b4 b5
      have ec : a = c := by
        rcases Int.lt_trichotomy a c with z | z | z
        · exact absurd (b2 a z) a1
        · exact z
        · exact absurd (a2 c z) b1
      have ed : b = d := by
        rcases Int.lt_trichotomy b d with z | z | z
        · exact absurd (a4 (d - 1) (by omega)) b3
        · exact z
        · exact absurd (b4 (b - 1) (by omega)) a3
      subst ec ed
      rcases a5 with ⟨u1, u2, u3⟩ | ⟨u1, u2, u3⟩
      · rcases b5 with ⟨w1, w2, w3⟩ | ⟨w1, w2, w3⟩
        · rw [u2, u3, w2, w3]
        · omega
      · rcases b5 with ⟨w1, w2, w3⟩ | ⟨w1, w2, w3⟩
        · omega
        · rw [u2, u3, w2, w3]
/-! #### dvint -/
theorem dv_int {bs : List Bool} {i : Nat} : Dv bs (1 + i) ↔ (bs.length : Int) % (1 + (i : Int)) = 0 ∧ bs = reps ((bs.length : Int) / (1 + (i : Int))) (bs.take (1 + (i : Int)).toNat) := by
  have e1 : (1 + (i : Int)) = ((1 + i : Nat) : Int) := by omega
  rw [e1]
  unfold Dv reps
  rw [Int.toNat_natCast, ← Int.natCast_ediv, Int.toNat_natCast, ← Int.natCast_emod]
  constructor
  · rintro ⟨h1, h2⟩
    exact ⟨by rw [h1]; rfl, h2⟩
  · rintro ⟨h1, h2⟩
    exact ⟨by omega, h2⟩
def a_shortest : Asp := fun rs P => ∃ bs : List Bool, rs = [.dat (bools bs)] ∧ bs ≠ [] ∧ bs.length ≤ 1000 ∧ ∀ cs : List Bool, Prim cs → (∀ y, rowAt cs y = rowAt bs y) → cs.length ≤ bs.length → P (.dat (bools cs))
set_option maxHeartbeats 8000000 in
theorem ok_shortest (T : Txt K mg) : FnOk P w K mg base CX0 1 T.a_shortest T.fd_shortest ["row"] (pSp K a_shortest) := by
  refine def_pure (N := n_shortest) (k := 0) T.F_shortest sc_shortest (by intro rs R h; unfold a_shortest at h; repeat (first | (obtain ⟨rfl, _⟩ := h; rfl) | (obtain ⟨_, h⟩ := h))) (fun cdv A outer s H E hr => ⟨_, (ss_cons (st_for PassesOwn.never rfl (ai_r2 (by rfl) T.z_range ae_int (ae_blt ka_len (by rfl) T.z_len bo_len (aa_cons (ae_var 0) aa_nil))) (ag_name 1 sc_shortest.nd)
      (ss_one (st_if (aw_and (at_cmp (oa_eq hr.units) (ae_op oa_mod (ae_blt ka_len (by rfl) T.z_len bo_len (aa_cons (ae_var 0) aa_nil)) (ae_var 1)) ae_int) (aw_and1 (at_cmp (oa_eq hr.units) (ae_var 0) (ae_op oa_mul (ae_slice (ae_var 0) ao_none (ao_some (ae_var 1))) (ae_op oa_fdiv (ae_blt ka_len (by rfl) T.z_len bo_len (aa_cons (ae_var 0) aa_nil)) (ae_var 1)))))).t
        (ss_one (st_ret (ae_slice (ae_var 0) ao_none (ao_some (ae_var 1)))))
        ss_nil)))
    (ss_one (st_ret (ae_var 0)))), fun rs R h => ?_⟩)
  obtain ⟨bs, rfl, h0, h1, q⟩ := h
  have L0 := List.length_pos_iff.mpr h0
  unfold bools at q ⊢
  walk_at "ab"
  refine ⟨by omega, by omega, by omega, by omega, fun i Γ => (∃ g, Γ = [some (.dat (.tuple (bs.map .bool))), g]) ∧ ∀ j, 0 < j → j ≤ i → ¬ Dv bs j, ⟨⟨none, rfl⟩, fun j _ _ => by omega⟩, ?_, ?_⟩
  · rintro i hi' Γ ⟨⟨g, rfl⟩, hno⟩
    refine ⟨_, rfl, ?_⟩
    walk_at "ab"
    have I0 : (0 : Int) < 1 + (i : Nat) := by omega
    rw [fmod_pos I0, fdiv_pos I0]
    refine ⟨by omega, ?_⟩
    have next : ¬ Dv bs (1 + i) → ∀ j, 0 < j → j ≤ i + 1 → ¬ Dv bs j := fun hd j j0 j1 => by
      by_cases e : j = 1 + i
      · rw [e]; exact hd
      · exact hno j j0 (by omega)
    by_cases c1 : (bs.length : Int) % (1 + (i : Nat)) = 0
    · simp only [c1, decide_true, if_true]
      have q0 : 0 ≤ (bs.length : Int) / (1 + (i : Nat)) := Int.ediv_nonneg (by omega) (by omega)
      have q1 : (bs.length : Int) / (1 + (i : Nat)) ≤ bs.length := Int.ediv_le_self _ (by omega)
      rw [cutD_to (by omega)]
      refine ⟨cdiv_pos I0 (by omega), by omega, by omega, by rw [List.length_take]; omega, ?_⟩
      by_cases c2 : bs = reps ((bs.length : Int) / (1 + (i : Nat))) (bs.take (1 + (i : Int)).toNat)
      · rw [decide_eq_true c2]
        simp only [if_true]
        obtain ⟨g1, g2, g3, g4⟩ := prim_take h0 (by omega) (dv_int.mpr ⟨c1, c2⟩) (fun j j0 j1 => hno j j0 (by omega))
        have e : (1 + (i : Int)).toNat = 1 + i := by omega
        rw [e]
        exact q _ g1 g2 (by omega)
      · rw [decide_eq_false c2]
        simp only [Bool.false_eq_true, if_false]
        exact ⟨⟨_, rfl⟩, next fun hd => c2 (dv_int.mp hd).2⟩
    · simp only [c1, decide_false, Bool.false_eq_true, if_false]
      exact ⟨⟨_, rfl⟩, next fun hd => c1 (dv_int.mp hd).1⟩
  · rintro Γ ⟨⟨g, rfl⟩, hno⟩
    walk_at "ab"
    exact q bs (prim_all h0 fun j j0 j1 => hno j j0 (by omega)) (fun _ => rfl) (Nat.le_refl _)
/-! ### rests_row -/
/-! #### rests -/
theorem Prim.dvd {bs : List Bool} (h : Prim bs) {n : Nat} (n0 : 0 < n) (k : Per (rowAt bs) n) : bs.length ∣ n := by
  have g := Per.gcd _ _ (rowAt_per bs) k
  have g0 : 0 < Nat.gcd bs.length n := Nat.gcd_pos_of_pos_right _ n0
  have h1 := h.min _ g0 g
  have h2 : Nat.gcd bs.length n ≤ bs.length := Nat.le_of_dvd h.pos (Nat.gcd_dvd_left _ _)
  have e : Nat.gcd bs.length n = bs.length := by omega
  rw [← e]
  exact Nat.gcd_dvd_right _ _
theorem per_window {f g : Int → Bool} {L : Nat} (hf : Per f L) (hg : Per g L) (L0 : 0 < L) (a : Int) (h : ∀ y, a ≤ y → y < a + (L : Nat) → f y = g y) (y : Int) : f y = g y := by
  have e1 := hf.int (-((y - a) / (L : Int))) y
  have e2 := hg.int (-((y - a) / (L : Int))) y
  rw [← e1, ← e2]
  have r0 : 0 ≤ (y - a) % (L : Int) := Int.emod_nonneg _ (by omega)
  have r1 : (y - a) % (L : Int) < (L : Int) := Int.emod_lt_of_pos _ (by omega)
  have e : (y - a) % (L : Int) + L * ((y - a) / L) = y - a := emod_div
  rw [Int.neg_mul, Int.mul_comm ((y - a) / (L : Int))]
  exact h _ (by omega) (by omega)
theorem mod_ne {x y : Int} {L : Nat} (h1 : x < y) (h2 : y < x + (L : Nat)) : x % (L : Int) ≠ y % (L : Int) := fun e => by
  have ex : x % (L : Int) + L * (x / L) = x := emod_div
  have ey : y % (L : Int) + L * (y / L) = y := emod_div
  have hd : (L : Int) * (y / L - x / L) = y - x := by rw [Int.mul_sub]; omega
  have L0 : (0 : Int) < L := by omega
  have k1 : y / (L : Int) - x / L < 1 := by
    by_cases c : y / (L : Int) - x / L < 1
    · exact c
    · have : (L : Int) * 1 ≤ L * (y / L - x / L) := Int.mul_le_mul_of_nonneg_left (by omega) (by omega)
      omega
  have k2 : 0 < y / (L : Int) - x / L := by
    by_cases c : 0 < y / (L : Int) - x / L
    · exact c
    · have : (L : Int) * (y / L - x / L) ≤ L * 0 := Int.mul_le_mul_of_nonneg_left (by omega) (by omega)
      omega
  omega
/-- T asks whether a number is in f -/
def Asks (T : Asp) (f : Int → Bool) : Prop := ∀ (n : Int) (P : RV → Prop), P (.dat (.bool (f n))) → T [.dat (.int n)] P
def a_rests_row (B : Asp → V → Prop) : Asp := fun rs P => ∃ (p : V → Prop) (T : Asp) (f : Int → Bool) (first per : Int), rs = [.obj p, .dat (.int first), .dat (.int per)] ∧ (∀ v, p v → B T v) ∧ (∀ (n : Int) (P : RV → Prop), first ≤ n → n < first + per → P (.dat (.bool (f n))) → T [.dat (.int n)] P) ∧ 0 < per ∧ per ≤ 1000 ∧ -(2 ^ 60) ≤ first ∧ first ≤ 2 ^ 60 ∧
  ∀ cs : List Bool, Prim cs → (∀ g : Int → Bool, Per g per.toNat → (∀ y, first ≤ y → y < first + per → f y = g y) → ∀ y, rowAt cs y = g y) → (∀ n : Nat, 0 < n → Per (rowAt cs) n → cs.length ∣ n) → cs.length ∣ per.toNat → P (.dat (bools cs))
set_option maxHeartbeats 8000000 in
theorem ok_rests_row (T : Txt K mg) : FnOk P w K mg base CX0 4 T.a_rests_row T.fd_rests_row ["test", "first", "period"] (hSp K fun H => a_rests_row (TestOf P w K mg base 2 ["number"] H)) := by
  refine def_h (N := n_rests_row) (k := 3) T.F_rests_row sc_rests_row (by intro H rs R h; unfold a_rests_row at h; repeat (first | (obtain ⟨rfl, _⟩ := h; rfl) | (obtain ⟨_, h⟩ := h))) (fun cdv A outer s H E hr => ⟨_, (ss_cons (st_set 3 sc_rests_row.nd (ae_op oa_mul (ae_lst (aa_cons ae_bl aa_nil)) (ae_var 2)))
    (ss_cons (st_for PassesOwn.never rfl (ai_r2 (by rfl) T.z_range (ae_var 1) (ae_op oa_add (ae_var 1) (ae_var 2))) (ag_name 4 sc_rests_row.nd)
      (ss_one (st_put 3 (pv 3) (ae_op oa_mod (ae_var 4) (ae_var 2)) (ae_callT P w K mg base (k := 2) (j := 2) (ps := ["number"]) 0 (hr.mono (by decide)) (by decide) (aa_cons (ae_var 4) aa_nil)))))
    (ss_one (st_ret (ae_call (ok_shortest T) (hr.mono (by decide)) (by rfl) T.m_shortest T.F_shortest.kp T.b_shortest pass0 (aa_cons (ae_ty ka_tuple (by rfl) T.z_tuple bo_tuple (aa_cons (ae_var 3) aa_nil)) aa_nil)))))), fun rs R h => ?_⟩)
  obtain ⟨p, T', f, first, per, rfl, hp, hf, p0, p1, f0, f1, q⟩ := h
  obtain ⟨n, en⟩ : ∃ n : Nat, (n : Int) = per := ⟨per.toNat, by omega⟩
  subst en
  rw [Int.toNat_natCast] at q
  walk_at "ab"
  have hx : reps (n : Int) [PyData.bool false] = (List.replicate n false).map .bool := by
    unfold reps
    rw [Int.toNat_natCast]
    simp
  rw [hx]
  refine ⟨by omega, by omega, Nat.le_of_lt (size_ok (by omega)), by omega, by omega, by omega, by omega, fun i Γ => ∃ g, ∃ bs : List Bool, Γ = [some (.obj p), some (.dat (.int first)), some (.dat (.int (n : Int))), some (.own (bs.map .bool)), g] ∧ bs.length = n ∧ ∀ y, first ≤ y → y < first + (i : Int) → bs.getD (y % (n : Int)).toNat false = f y, ⟨_, _, rfl, by simp, fun y h1 h2 => by omega⟩, ?_, ?_⟩
  · rintro i hi Γ ⟨g, bs, rfl, hl, hb⟩
    refine ⟨_, rfl, p, rfl, T', hp, ?_⟩
    walk_at "ab"
    refine hf _ _ (by omega) (by omega) ?_
    have n0 : (0 : Int) < n := by omega
    have r0 : 0 ≤ (first + (i : Int)) % (n : Int) := Int.emod_nonneg _ (by omega)
    have r1 : (first + (i : Int)) % (n : Int) < n := Int.emod_lt_of_pos _ n0
    walk_at "ab"
    rw [fmod_pos n0]
    refine ⟨_, rfl, by omega, ((first + (i : Int)) % (n : Int)).toNat, ?_, ?_⟩
    · rw [List.length_map, hl, ixN, if_pos r0, if_pos r1]
    · refine ⟨_, bs.set ((first + (i : Int)) % (n : Int)).toNat (f (first + (i : Int))), by rw [List.map_set], by rw [List.length_set]; exact hl, fun y h1 h2 => ?_⟩
      have s0 : 0 ≤ y % (n : Int) := Int.emod_nonneg _ (by omega)
      have s1 : y % (n : Int) < n := Int.emod_lt_of_pos _ n0
      by_cases hy : y = first + (i : Int)
      · subst hy
        rw [List.getD, List.getElem?_set_self (by omega)]
        rfl
      · have ne := mod_ne (L := n) (show y < first + (i : Int) by omega) (by omega)
        rw [List.getD, List.getElem?_set_ne (by omega)]
        exact hb y h1 (by omega)
  · rintro Γ ⟨g, bs, rfl, hl, hb⟩
    walk_at "ab"
    have ne : bs ≠ [] := fun z => by rw [z] at hl; simp at hl; omega
    refine ⟨bs, rfl, ne, by omega, fun cs pc ec lc => ?_⟩
    have pb : Per (rowAt bs) n := by
      have := rowAt_per bs
      rwa [hl] at this
    have pn : Per (rowAt cs) n := by
      rw [funext ec]
      exact pb
    refine ⟨rfl, q cs pc (fun g hg hw y => ?_) (fun m m0 hm => pc.dvd m0 hm) (pc.dvd (by omega) pn)⟩
    rw [ec]
    refine per_window pb hg (by omega) first (fun z h1 h2 => ?_) y
    rw [← hw z h1 h2, ← hb z h1 (by omega)]
    unfold rowAt
    rw [hl]
/-! ### first_unlike -/
def a_first_unlike : Asp := fun rs P => ∃ (l r : List Bool) (n : Int), rs = [.dat (bools l), .dat (bools r), .dat (.int n)] ∧ l ≠ [] ∧ r ≠ [] ∧ (∃ y, n ≤ y ∧ rowAt l y ≠ rowAt r y) ∧ ∀ y, n ≤ y → rowAt l y ≠ rowAt r y → (∀ z, n ≤ z → z < y → rowAt l z = rowAt r z) → P (.dat (.int y))
set_option maxHeartbeats 8000000 in
theorem ok_first_unlike (T : Txt K mg) : FnOk P w K mg base CX0 1 T.a_first_unlike T.fd_first_unlike ["left", "right", "number"] (pSp K a_first_unlike) := by
  refine def_pure (N := n_first_unlike) (k := 0) T.F_first_unlike sc_first_unlike (by intro rs R h; unfold a_first_unlike at h; repeat (first | (obtain ⟨rfl, _⟩ := h; rfl) | (obtain ⟨_, h⟩ := h))) (fun cdv A outer s H E hr => ⟨_, (ss_cons (st_while PassesOwn.never (at_cmp (oa_eq hr.units) (ae_ix (ae_var 0) (ae_op oa_mod (ae_var 2) (ae_blt ka_len (by rfl) T.z_len bo_len (aa_cons (ae_var 0) aa_nil)))) (ae_ix (ae_var 1) (ae_op oa_mod (ae_var 2) (ae_blt ka_len (by rfl) T.z_len bo_len (aa_cons (ae_var 1) aa_nil)))))
      (ss_one (st_aug 2 sc_first_unlike.nd ip_add ae_int)))
    (ss_one (st_ret (ae_var 2)))), fun rs R h => ?_⟩)
  obtain ⟨l, r, n, rfl, l0, r0, ⟨y, hy, hne⟩, q⟩ := h
  have L0 : (0 : Int) < l.length := by have := List.length_pos_iff.mpr l0; omega
  have R0 : (0 : Int) < r.length := by have := List.length_pos_iff.mpr r0; omega
  unfold bools
  walk_at "ab"
  have item : ∀ (T : List Bool), 0 < (T.length : Int) → ∀ z : Int, atI (T.map PyData.bool) (z.fmod T.length) = some (.bool (rowAt T z)) := fun T hT z => by
    rw [fmod_pos hT]
    exact atI_map.mpr ⟨_, atI_getD (Int.emod_nonneg _ (by omega)) (Int.emod_lt_of_pos _ hT) false, rfl⟩
  refine ⟨fun m Γ => ∃ k : Int, Γ = [some (.dat (bools l)), some (.dat (bools r)), some (.dat (.int k))] ∧ n ≤ k ∧ k ≤ y ∧ (m : Int) = y - k ∧ ∀ z, n ≤ z → z < k → rowAt l z = rowAt r z, ⟨(y - n).toNat, n, rfl, by omega, hy, by omega, fun z h1 h2 => by omega⟩, ?_⟩
  rintro m Γ ⟨k, rfl, k0, k1, k2, hk⟩
  unfold bools
  walk_at "ab"
  refine ⟨by omega, _, item l L0 k, by omega, _, item r R0 k, ?_⟩
  walk_at "ab"
  by_cases c : rowAt l k = rowAt r k
  · rw [if_pos (by simp [c])]
    have ky : k ≠ y := fun z => hne (by rw [← z]; exact c)
    refine ⟨k, rfl, (y - (k + 1)).toNat, by omega, k + 1, rfl, by omega, by omega, by omega, fun z h1 h2 => ?_⟩
    by_cases hz : z = k
    · rw [hz]; exact c
    · exact hk z h1 (by omega)
  · rw [if_neg (by simp [c])]
    exact q k k0 c hk
/-! ### last_unlike -/
def a_last_unlike : Asp := fun rs P => ∃ (l r : List Bool) (n : Int), rs = [.dat (bools l), .dat (bools r), .dat (.int n)] ∧ l ≠ [] ∧ r ≠ [] ∧ (∃ y, y ≤ n ∧ rowAt l (y - 1) ≠ rowAt r (y - 1)) ∧ ∀ y, y ≤ n → rowAt l (y - 1) ≠ rowAt r (y - 1) → (∀ z, y ≤ z → z < n → rowAt l z = rowAt r z) → P (.dat (.int y))
set_option maxHeartbeats 8000000 in
theorem ok_last_unlike (T : Txt K mg) : FnOk P w K mg base CX0 1 T.a_last_unlike T.fd_last_unlike ["left", "right", "number"] (pSp K a_last_unlike) := by
  refine def_pure (N := n_last_unlike) (k := 0) T.F_last_unlike sc_last_unlike (by intro rs R h; unfold a_last_unlike at h; repeat (first | (obtain ⟨rfl, _⟩ := h; rfl) | (obtain ⟨_, h⟩ := h))) (fun cdv A outer s H E hr => ⟨_, (ss_cons (st_while PassesOwn.never (at_cmp (oa_eq hr.units) (ae_ix (ae_var 0) (ae_op oa_mod (ae_op oa_sub (ae_var 2) ae_int) (ae_blt ka_len (by rfl) T.z_len bo_len (aa_cons (ae_var 0) aa_nil)))) (ae_ix (ae_var 1) (ae_op oa_mod (ae_op oa_sub (ae_var 2) ae_int) (ae_blt ka_len (by rfl) T.z_len bo_len (aa_cons (ae_var 1) aa_nil)))))
      (ss_one (st_aug 2 sc_last_unlike.nd ip_sub ae_int)))
    (ss_one (st_ret (ae_var 2)))), fun rs R h => ?_⟩)
  obtain ⟨l, r, n, rfl, l0, r0, ⟨y, hy, hne⟩, q⟩ := h
  have L0 : (0 : Int) < l.length := by have := List.length_pos_iff.mpr l0; omega
  have R0 : (0 : Int) < r.length := by have := List.length_pos_iff.mpr r0; omega
  unfold bools
  walk_at "ab"
  have item : ∀ (T : List Bool), 0 < (T.length : Int) → ∀ z : Int, atI (T.map PyData.bool) (z.fmod T.length) = some (.bool (rowAt T z)) := fun T hT z => by
    rw [fmod_pos hT]
    exact atI_map.mpr ⟨_, atI_getD (Int.emod_nonneg _ (by omega)) (Int.emod_lt_of_pos _ hT) false, rfl⟩
  refine ⟨fun m Γ => ∃ k : Int, Γ = [some (.dat (bools l)), some (.dat (bools r)), some (.dat (.int k))] ∧ k ≤ n ∧ y ≤ k ∧ (m : Int) = k - y ∧ ∀ z, k ≤ z → z < n → rowAt l z = rowAt r z, ⟨(n - y).toNat, n, rfl, by omega, hy, by omega, fun z h1 h2 => by omega⟩, ?_⟩
  rintro m Γ ⟨k, rfl, k0, k1, k2, hk⟩
  unfold bools
  walk_at "ab"
  refine ⟨by omega, _, item l L0 (k - 1), by omega, _, item r R0 (k - 1), ?_⟩
  walk_at "ab"
  by_cases c : rowAt l (k - 1) = rowAt r (k - 1)
  · rw [if_pos (by simp [c])]
    have ky : k ≠ y := fun z => hne (by rw [← z]; exact c)
    refine ⟨k, rfl, (k - 1 - y).toNat, by omega, k - 1, rfl, by omega, by omega, by omega, fun z h1 h2 => ?_⟩
    by_cases hz : z = k - 1
    · rw [hz]; exact c
    · exact hk z (by omega) h2
  · rw [if_neg (by simp [c])]
    exact q k k0 c hk
/-! ### made -/
/-! #### unlike -/
theorem unlike_up {L R : List Bool} {per : Nat} (pl : Prim L) (pr : Prim R) (dl : L.length ∣ per) (dr : R.length ∣ per) (p0 : 0 < per) (ne : L ≠ R) (n : Int) : ∃ y, n ≤ y ∧ y < n + (per : Int) ∧ rowAt L y ≠ rowAt R y := by
  by_cases c : ∃ y, n ≤ y ∧ y < n + (per : Int) ∧ rowAt L y ≠ rowAt R y
  · exact c
  · exfalso
    obtain ⟨k, ek⟩ := dl
    obtain ⟨m, em⟩ := dr
    have hl : Per (rowAt L) per := by rw [ek, Nat.mul_comm]; exact (rowAt_per L).of_mul k
    have hr : Per (rowAt R) per := by rw [em, Nat.mul_comm]; exact (rowAt_per R).of_mul m
    refine ne (pl.unique pr (per_window hl hr p0 n fun y h1 h2 => ?_))
    by_cases e : rowAt L y = rowAt R y
    · exact e
    · exact absurd ⟨y, h1, h2, e⟩ c
theorem cutD_mid {α : Type} {l : List α} {i j : Nat} (h : i ≤ j) (hj : j ≤ l.length) : Ab.cutD l (some (i : Int)) (some (j : Int)) = (l.drop i).take (j - i) := by
  unfold Ab.cutD
  rw [HT.sIx_nat, HT.sIx_nat, Nat.min_eq_left hj, Nat.min_eq_left (by omega)]
theorem range_cut {n i j : Nat} (h : i ≤ j) (hj : j ≤ n) : Ab.cutD (List.range n) (some (i : Int)) (some (j : Int)) = (List.range (j - i)).map (i + ·) := by
  rw [cutD_mid h (by rw [List.length_range]; exact hj)]
  apply List.ext_getElem?
  intro k
  by_cases hk : k < j - i
  · rw [List.getElem?_take_of_lt hk, List.getElem?_drop, List.getElem?_range (by omega), List.getElem?_map, List.getElem?_range hk]
    rfl
  · rw [List.getElem?_eq_none (by simp; omega), List.getElem?_eq_none (by simp; omega)]
/-! #### filt -/
/-! what a comprehension with a test keeps of a range -/
def fl (p : Nat → Bool) (n : Nat) : List Nat := (List.range n).filter p
theorem fl_yes {p : Nat → Bool} {n : Nat} (h : p n = true) : fl p (n + 1) = fl p n ++ [n] := by
  unfold fl
  rw [List.range_succ, List.filter_append]
  simp [h]
theorem fl_no {p : Nat → Bool} {n : Nat} (h : p n = false) : fl p (n + 1) = fl p n := by
  unfold fl
  rw [List.range_succ, List.filter_append]
  simp [h]
theorem fl_len (p : Nat → Bool) (n : Nat) : (fl p n).length ≤ n := by
  unfold fl
  have := List.length_filter_le p (List.range n)
  rwa [List.length_range] at this
theorem fl_nil {p : Nat → Bool} {n : Nat} (h : fl p n = []) : ∀ k, k < n → p k = false := fun k hk => by
  cases e : p k with
  | false => rfl
  | true =>
    have : k ∈ fl p n := List.mem_filter.mpr ⟨List.mem_range.mpr hk, e⟩
    rw [h] at this
    cases this
theorem fl_first {p : Nat → Bool} : ∀ {n : Nat}, fl p n ≠ [] → ∃ k, (fl p n)[0]? = some k ∧ k < n ∧ p k = true ∧ ∀ j, j < k → p j = false
  | 0, h => absurd rfl h
  | n + 1, h => by
    by_cases h0 : fl p n = []
    · cases e : p n with
      | false => rw [fl_no e] at h; exact absurd h0 h
      | true => exact ⟨n, by rw [fl_yes e, h0]; rfl, by omega, e, fl_nil h0⟩
    · obtain ⟨k, h1, h2, h3, h4⟩ := fl_first h0
      refine ⟨k, ?_, by omega, h3, h4⟩
      cases e : p n with
      | false => rw [fl_no e]; exact h1
      | true =>
        rw [fl_yes e, List.getElem?_append_left (List.length_pos_iff.mpr h0)]
        exact h1
theorem atI_neg {α : Type} {l : List α} (h : l ≠ []) : atI l (-1) = l.getLast? := by
  have e := List.dropLast_concat_getLast h
  have := atI_last l.dropLast (l.getLast h)
  rw [e] at this
  rw [this, List.getLast?_eq_some_getLast h]
theorem fl_last {p : Nat → Bool} : ∀ {n : Nat}, fl p n ≠ [] → ∃ k, atI (fl p n) (-1) = some k ∧ k < n ∧ p k = true ∧ ∀ j, k < j → j < n → p j = false
  | 0, h => absurd rfl h
  | n + 1, h => by
    cases e : p n with
    | true => exact ⟨n, by rw [fl_yes e]; exact atI_last _ _, by omega, e, fun j h1 h2 => by omega⟩
    | false =>
      rw [fl_no e] at h ⊢
      obtain ⟨k, h1, h2, h3, h4⟩ := fl_last h
      refine ⟨k, h1, by omega, h3, fun j g1 g2 => ?_⟩
      by_cases c : j = n
      · rw [c]; exact e
      · exact h4 j g1 (by omega)
def a_made (B : Asp → V → Prop) : Asp := fun rs P => ∃ (p : V → Prop) (T : Asp) (f : Int → Bool) (per : Nat) (lo hi : Int), rs = [.obj p, .dat (.int (per : Int)), .dat (.int lo), .dat (.int hi)] ∧ (∀ v, p v → B T v) ∧ (∀ (n : Int) (P : RV → Prop), lo - per ≤ n → n < hi + per → P (.dat (.bool (f n))) → T [.dat (.int n)] P) ∧
  0 < per ∧ per ≤ 1000 ∧ lo ≤ hi ∧ hi - lo ≤ 20000 ∧ -100000 ≤ lo ∧ hi ≤ 100000 ∧ (∃ g : Int → Bool, Per g per ∧ ∀ y, y < lo → f y = g y) ∧ (∃ g : Int → Bool, Per g per ∧ ∀ y, hi ≤ y → f y = g y) ∧
  ∀ q : Pat, Wr f q → q.left.length ∣ per → q.right.length ∣ per → q.Ok → lo - 1000 ≤ q.start ∨ q.start = 0 → q.start ≤ hi + 1000 ∨ q.start = 0 → (q.mid.length : Int) ≤ hi - lo → P (.dat (patD q))
set_option maxHeartbeats 8000000 in
theorem ok_made (T : Txt K mg) : FnOk P w K mg base CX0 6 T.a_made T.fd_made ["test", "period", "low", "high"] (hSp K fun H => a_made (TestOf P w K mg base 2 ["number"] H)) := by
  refine def_h (N := n_made) (k := 5) T.F_made sc_made (by intro H rs R h; unfold a_made at h; repeat (first | (obtain ⟨rfl, _⟩ := h; rfl) | (obtain ⟨_, h⟩ := h))) (fun cdv A outer s H E hr => ⟨_, (ss_cons (st_if (aw_or (at_cmp oa_gt (ae_var 1) (ae_glob (d := .int 5000) (v := .int 5000) (by rfl) T.k_MOST_PERIOD.choose_spec ⟨_, rfl⟩ (fun _ => ⟨.int _, rfl⟩))) (aw_or1 (at_cmp oa_gt (ae_op oa_sub (ae_var 3) (ae_var 2)) (ae_glob (d := .int 20000) (v := .int 20000) (by rfl) T.k_MOST_MIDDLE.choose_spec ⟨_, rfl⟩ (fun _ => ⟨.int _, rfl⟩))))).t
      (ss_one st_never)
      ss_nil)
    (ss_cons (st_set 4 sc_made.nd (ae_callH (ok_rests_row T) (hr.mono (by decide)) (by rfl) T.m_rests_row T.F_rests_row.kp T.b_rests_row pass0 (aa_cons (ae_var 0) (aa_cons (ae_op oa_sub (ae_var 2) (ae_var 1)) (aa_cons (ae_var 1) aa_nil)))))
    (ss_cons (st_set 5 sc_made.nd (ae_callH (ok_rests_row T) (hr.mono (by decide)) (by rfl) T.m_rests_row T.F_rests_row.kp T.b_rests_row pass0 (aa_cons (ae_var 0) (aa_cons (ae_var 3) (aa_cons (ae_var 1) aa_nil)))))
    (ss_cons (st_setLc 6 (own := [("number", 11)]) rfl sc_made.nd (ai_r2 (by rfl) T.z_range (ae_var 2) (ae_var 3)) (blkOk_by (N := n_made) (sc := defScope s_made) (by decide +kernel)) (fun _ _ _ _ _ => (ag_name 11 sc_made.nd)) (fun _ _ _ _ _ => ats_nil) (fun _ _ _ _ _ => (ae_callT P w K mg base (k := 2) (j := 2) (ps := ["number"]) 0 (hr.mono (by decide)) (by decide) (aa_cons (ae_var 11) aa_nil))))
    (ss_cons (st_setLc 7 (own := [("k", 12), ("one", 13)]) rfl sc_made.nd (ai_enumerate (by rfl) T.z_enumerate (ae_var 6)) (blkOk_by (N := n_made) (sc := defScope s_made) (by decide +kernel)) (fun _ _ _ _ _ => (ag_tup rfl (ags_cons 12 sc_made.nd (ags_cons 13 sc_made.nd ags_nil)))) (fun _ _ _ _ _ => (ats_one (at_cmp (oa_ne hr.units) (ae_var 13) (ae_ix (ae_var 4) (ae_op oa_mod (ae_op oa_add (ae_var 2) (ae_var 12)) (ae_blt ka_len (by rfl) T.z_len bo_len (aa_cons (ae_var 4) aa_nil))))))) (fun _ _ _ _ _ => (ae_op oa_add (ae_var 2) (ae_var 12))))
    (ss_cons (st_setLc 8 (own := [("k", 12), ("one", 13)]) rfl sc_made.nd (ai_enumerate (by rfl) T.z_enumerate (ae_var 6)) (blkOk_by (N := n_made) (sc := defScope s_made) (by decide +kernel)) (fun _ _ _ _ _ => (ag_tup rfl (ags_cons 12 sc_made.nd (ags_cons 13 sc_made.nd ags_nil)))) (fun _ _ _ _ _ => (ats_one (at_cmp (oa_ne hr.units) (ae_var 13) (ae_ix (ae_var 5) (ae_op oa_mod (ae_op oa_add (ae_var 2) (ae_var 12)) (ae_blt ka_len (by rfl) T.z_len bo_len (aa_cons (ae_var 5) aa_nil))))))) (fun _ _ _ _ _ => (ae_op oa_add (ae_var 2) (ae_var 12))))
    (ss_cons (st_if (aw_and (at_cmp (oa_eq hr.units) (ae_var 4) (ae_var 5)) (aw_and1 (at_not (at_tru (ae_var 7))))).t
      (ss_one (st_ret (ae_tup (aa_cons (ae_var 4) (aa_cons ae_int (aa_cons (ae_tup aa_nil) (aa_cons (ae_var 5) aa_nil)))))))
      ss_nil)
    (ss_cons (st_set 9 sc_made.nd (ae_if (at_tru (ae_var 7)) (ae_ix (ae_var 7) ae_int) (ae_call (ok_first_unlike T) (hr.mono (by decide)) (by rfl) T.m_first_unlike T.F_first_unlike.kp T.b_first_unlike pass0 (aa_cons (ae_var 4) (aa_cons (ae_var 5) (aa_cons (ae_var 3) aa_nil))))))
    (ss_cons (st_set 10 sc_made.nd (ae_if (at_tru (ae_var 8)) (ae_op oa_add (ae_ix (ae_var 8) (ae_neg (ha := ae_int))) ae_int) (ae_call (ok_last_unlike T) (hr.mono (by decide)) (by rfl) T.m_last_unlike T.F_last_unlike.kp T.b_last_unlike pass0 (aa_cons (ae_var 4) (aa_cons (ae_var 5) (aa_cons (ae_var 2) aa_nil))))))
    (ss_cons (st_if (at_cmp oa_le (ae_var 10) (ae_var 9))
      (ss_one (st_ret (ae_tup (aa_cons (ae_var 4) (aa_cons (ae_var 10) (aa_cons (ae_tup aa_nil) (aa_cons (ae_var 5) aa_nil)))))))
      ss_nil)
    (ss_one (st_ret (ae_tup (aa_cons (ae_var 4) (aa_cons (ae_var 9) (aa_cons (ae_ty ka_tuple (by rfl) T.z_tuple bo_tuple (aa_cons (ae_slice (ae_var 6) (ao_some (ae_op oa_sub (ae_var 9) (ae_var 2))) (ao_some (ae_op oa_sub (ae_var 10) (ae_var 2)))) aa_nil)) (aa_cons (ae_var 5) aa_nil))))))))))))))))), fun rs R h => ?_⟩)
  obtain ⟨p, T', f, per, lo, hi, rfl, hp, hf, p0, p1, lh, hl, l0, h0, ⟨gl, pl, el⟩, ⟨gr, pr, er⟩, q⟩ := h
  walk_at "ab"
  rw [if_neg (by simp; omega), if_neg (by simp; omega)]
  intro B hB
  refine ⟨p, T', f, _, _, rfl, fun v hv => hB _ _ (hp v hv), fun n P h1 h2 h3 => hf n P (by omega) (by omega) h3, by omega, by omega, by omega, by omega, fun L prL wL mL dL => ?_⟩
  rw [Int.toNat_natCast] at wL dL
  have eL : ∀ y, y < lo → f y = rowAt L y := fun y hy => by rw [wL gl pl (fun z h1 h2 => el z (by omega)) y]; exact el y hy
  unfold bools
  walk_at "ab"
  intro B hB
  refine ⟨p, T', f, _, _, rfl, fun v hv => hB _ _ (hp v hv), fun n P h1 h2 h3 => hf n P (by omega) (by omega) h3, by omega, by omega, by omega, by omega, fun R prR wR mR dR => ?_⟩
  rw [Int.toNat_natCast] at wR dR
  have eR : ∀ y, hi ≤ y → f y = rowAt R y := fun y hy => by rw [wR gr pr (fun z h1 h2 => er z (by omega)) y]; exact er y hy
  unfold bools
  walk_at "ab"
  have L1 : (0 : Int) < L.length := by have := prL.pos; omega
  have R1 : (0 : Int) < R.length := by have := prR.pos; omega
  have lenL := Nat.le_of_dvd p0 dL
  have lenR := Nat.le_of_dvd p0 dR
  obtain ⟨n, en⟩ : ∃ n : Nat, n = (hi - lo).toNat := ⟨_, rfl⟩
  rw [← en]
  refine ⟨by omega, by omega, by omega, by omega, fun i acc => acc = (List.range i).map fun k : Nat => .bool (f (lo + (k : Nat))), rfl, ?_, ?_⟩
  · intro i hi' acc e
    subst e
    refine ⟨p, rfl, T', hp, hf _ _ (by omega) (by omega) ?_⟩
    walk_at "ab"
    refine ⟨size_ok (by rw [List.length_range]; omega), ?_⟩
    rw [List.range_succ, List.map_append]
    rfl
  · intro row e
    subst e
    walk_at "ab"
    let pa : List Bool → Nat → Bool := fun T k => !(f (lo + (k : Int)) == rowAt T (lo + (k : Int)))
    have item : ∀ (T : List Bool), 0 < (T.length : Int) → ∀ (i : Nat), atI (T.map PyData.bool) ((lo + (i : Int)).fmod T.length) = some (.bool (rowAt T (lo + (i : Int)))) := fun T hT i => by
      rw [fmod_pos hT]
      exact atI_map.mpr ⟨_, atI_getD (Int.emod_nonneg _ (by omega)) (Int.emod_lt_of_pos _ hT) false, rfl⟩
    have turn : ∀ (T : List Bool) (i : Nat), i < n → (if pa T i = true then (fl (pa T) i).length < sizeLine ∧ ((fl (pa T) i).map fun k => PyData.int (lo + (k : Nat))) ++ [PyData.int (lo + (i : Nat))] = (fl (pa T) (i + 1)).map fun k => PyData.int (lo + (k : Nat)) else ((fl (pa T) i).map fun k => PyData.int (lo + (k : Nat))) = (fl (pa T) (i + 1)).map fun k => PyData.int (lo + (k : Nat))) := fun T i hi => by
      cases e : pa T i with
      | true =>
        rw [if_pos rfl, fl_yes e, List.map_append]
        refine ⟨?_, rfl⟩
        have := fl_len (pa T) i
        exact size_ok (by omega)
      | false =>
        rw [if_neg Bool.false_ne_true, fl_no e]
    have rg : ∀ {i a : Nat}, (List.range n)[i]? = some a → i < n ∧ a = i := fun {i a} h => by
      have h1 := (List.getElem?_eq_some_iff.mp h).1
      rw [List.length_range] at h1
      rw [List.getElem?_range h1] at h
      exact ⟨h1, (Option.some.inj h).symm⟩
    refine ⟨fun i acc => acc = (fl (pa L) i).map fun k => .int (lo + (k : Nat)), rfl, ?_, ?_⟩
    · intro i d a ha ed acc e
      obtain ⟨hi', rfl⟩ := rg ha
      subst ed e
      refine ⟨_, rfl, ?_⟩
      walk_at "ab"
      refine ⟨by omega, _, item L L1 a, ?_⟩
      walk_at "ab"
      exact turn L a hi'
    · intro odd eo
      rw [List.length_range] at eo
      subst eo
      refine ⟨fun i acc => acc = (fl (pa R) i).map fun k => .int (lo + (k : Nat)), rfl, ?_, ?_⟩
      · intro i d a ha ed acc e
        obtain ⟨hi', rfl⟩ := rg ha
        subst ed e
        refine ⟨_, rfl, ?_⟩
        walk_at "ab"
        refine ⟨by omega, _, item R R1 a, ?_⟩
        walk_at "ab"
        exact turn R a hi'
      · intro late el
        rw [List.length_range] at el
        subst el
        have inL : fl (pa L) n = [] → ∀ y, y < hi → f y = rowAt L y := fun hz y hy => by
          by_cases c1 : y < lo
          · exact eL y c1
          · have := fl_nil hz (y - lo).toNat (by omega)
            simp only [pa, show lo + (((y - lo).toNat : Nat) : Int) = y by omega] at this
            simpa using this
        have inR : fl (pa R) n = [] → ∀ y, lo ≤ y → f y = rowAt R y := fun hz y hy => by
          by_cases c1 : hi ≤ y
          · exact eR y c1
          · have := fl_nil hz (y - lo).toNat (by omega)
            simp only [pa, show lo + (((y - lo).toNat : Nat) : Int) = y by omega] at this
            simpa using this
        have okq : ∀ (s : Int) (m : List Bool), -101000 ≤ s → s ≤ 101000 → m.length ≤ 20000 → (⟨L, s, m, R⟩ : Pat).Ok := fun s m h1 h2 h3 => ⟨prL.ne, prR.ne, by show L.length ≤ 1000; omega, by show R.length ≤ 1000; omega, by show m.length ≤ 30000; omega, by show -1000000 ≤ s; omega, by show s ≤ 1000000; omega⟩
        rw [ite_and2]
        by_cases hc : L = R ∧ fl (pa L) n = []
        · rw [if_pos (by simp only [Bool.and_eq_true, decide_eq_true_eq, Bool.not_not, List.isEmpty_iff, List.map_eq_nil_iff]; exact hc)]
          refine q ⟨L, 0, [], R⟩ ⟨prL, prR, .inl ⟨hc.1, fun y => ?_, rfl, rfl⟩⟩ dL dR (okq 0 [] (by omega) (by omega) (Nat.zero_le _)) (.inr rfl) (.inr rfl) (by show (0 : Int) ≤ hi - lo; omega)
          by_cases c1 : y < hi
          · exact inL hc.2 y c1
          · rw [eR y (by omega), hc.1]
        · rw [if_neg (by simp only [Bool.and_eq_true, decide_eq_true_eq, Bool.not_not, List.isEmpty_iff, List.map_eq_nil_iff]; exact hc)]
          -- where it starts
          rcases Decidable.em (fl (pa L) n = []) with oz | oz
          case' inl =>
            rw [if_neg (by simp [oz])]
            have ne : L ≠ R := fun z => hc ⟨z, oz⟩
            obtain ⟨y0, u1, u2, u3⟩ := unlike_up prL prR dL dR p0 ne hi
            refine ⟨L, R, hi, rfl, prL.ne, prR.ne, ⟨y0, u1, u3⟩, fun a a1 a2 a3 => ?_⟩
            have s1 : f a ≠ rowAt L a := fun z => a2 (by rw [← z]; exact eR a a1)
            have s2 : ∀ y, y < a → f y = rowAt L y := fun y hy => by
              by_cases c1 : y < hi
              · exact inL oz y c1
              · rw [eR y (by omega), a3 y (by omega) hy]
            have s3 : lo ≤ a ∧ a ≤ hi + 1000 := ⟨by omega, by
              by_cases c1 : a ≤ y0
              · omega
              · exact absurd (a3 y0 u1 (by omega)) u3⟩
            walk_at "ab"
          case' inr =>
            rw [if_pos (by simp [oz])]
            obtain ⟨k, g1, g2, g3, g4⟩ := fl_first oz
            refine ⟨.int (lo + (k : Int)), atI_map.mpr ⟨k, ?_, rfl⟩, ?_⟩
            case' refine_1 =>
              rw [atI_pos (by omega) (by have := List.length_pos_iff.mpr oz; omega)]
              exact g1
            obtain ⟨a, ea⟩ : ∃ a, a = lo + (k : Int) := ⟨_, rfl⟩
            rw [← ea]
            have s1 : f a ≠ rowAt L a := by rw [ea]; simpa [pa] using g3
            have s2 : ∀ y, y < a → f y = rowAt L y := fun y hy => by
              by_cases c1 : y < lo
              · exact eL y c1
              · have := g4 (y - lo).toNat (by omega)
                simp only [pa, show lo + (((y - lo).toNat : Nat) : Int) = y by omega] at this
                simpa using this
            have s3 : lo ≤ a ∧ a ≤ hi + 1000 := ⟨by omega, by omega⟩
          all_goals
            rcases Decidable.em (fl (pa R) n = []) with lz | lz
            case' inl =>
              rw [if_neg (by simp [lz])]
              have ne : L ≠ R := fun z => hc ⟨z, by rw [z]; exact lz⟩
              obtain ⟨y0, u1, u2, u3⟩ := unlike_up prL prR dL dR p0 ne (lo - per)
              refine ⟨L, R, lo, rfl, prL.ne, prR.ne, ⟨y0 + 1, by omega, by rw [show y0 + 1 - 1 = y0 by omega]; exact u3⟩, fun b b1 b2 b3 => ?_⟩
              have t1 : f (b - 1) ≠ rowAt R (b - 1) := fun z => b2 (by rw [← z]; exact (eL (b - 1) (by omega)).symm)
              have t2 : ∀ y, b ≤ y → f y = rowAt R y := fun y hy => by
                by_cases c1 : y < lo
                · rw [eL y c1, b3 y hy c1]
                · exact inR lz y (by omega)
              have t3 : b ≤ hi ∧ lo - 1000 ≤ b := ⟨by omega, by
                by_cases c1 : y0 < b
                · omega
                · exact absurd (b3 y0 (by omega) (by omega)) u3⟩
              walk_at "ab"
            case' inr =>
              rw [if_pos (by simp [lz])]
              obtain ⟨m, v1, v2, v3, v4⟩ := fl_last lz
              refine ⟨.int (lo + (m : Int)), atI_map.mpr ⟨m, v1, rfl⟩, ?_⟩
              walk_at "ab"
              obtain ⟨b, eb⟩ : ∃ b, b = lo + (m : Int) + 1 := ⟨_, rfl⟩
              rw [← eb]
              have t1 : f (b - 1) ≠ rowAt R (b - 1) := by rw [show b - 1 = lo + (m : Int) by omega]; simpa [pa] using v3
              have t2 : ∀ y, b ≤ y → f y = rowAt R y := fun y hy => by
                by_cases c1 : hi ≤ y
                · exact eR y c1
                · have := v4 (y - lo).toNat (by omega) (by omega)
                  simp only [pa, show lo + (((y - lo).toNat : Nat) : Int) = y by omega] at this
                  simpa using this
              have t3 : b ≤ hi ∧ lo - 1000 ≤ b := ⟨by omega, by omega⟩
            all_goals
              by_cases hab : b ≤ a
              · rw [if_pos (by simp [hab])]
                exact q ⟨L, b, [], R⟩ ⟨prL, prR, .inr ⟨a, b, s1, s2, t1, t2, .inl ⟨hab, rfl, rfl⟩⟩⟩ dL dR (okq b [] (by omega) (by omega) (Nat.zero_le _)) (.inl t3.2) (.inl (by show b ≤ hi + 1000; omega)) (by show (0 : Int) ≤ hi - lo; omega)
              · rw [if_neg (by simp [hab])]
                have ha : a < hi := by
                  by_cases c1 : a < hi
                  · exact c1
                  · exact absurd (eR (b - 1) (by omega)) t1
                obtain ⟨i, ei⟩ : ∃ i : Nat, (i : Int) = a - lo := ⟨(a - lo).toNat, by omega⟩
                obtain ⟨j, ej⟩ : ∃ j : Nat, (j : Int) = b - lo := ⟨(b - lo).toNat, by omega⟩
                rw [← ei, ← ej, range_cut (by omega) (by omega), List.map_map]
                have em : (List.range (b - a).toNat).map (fun k : Nat => f (a + (k : Nat))) = (List.range (j - i)).map fun k : Nat => f (lo + ((i + k : Nat) : Int)) := by
                  rw [show (b - a).toNat = j - i by omega]
                  exact List.map_congr_left fun k _ => by rw [show a + (k : Int) = lo + ((i + k : Nat) : Int) by omega]
                have lm : ((List.range (b - a).toNat).map (fun k : Nat => f (a + (k : Nat)))).length ≤ 20000 := by
                  rw [List.length_map, List.length_range]
                  omega
                have := q ⟨L, a, (List.range (b - a).toNat).map fun k : Nat => f (a + (k : Nat)), R⟩ ⟨prL, prR, .inr ⟨a, b, s1, s2, t1, t2, .inr ⟨by omega, rfl, rfl⟩⟩⟩ dL dR (okq a _ (by omega) (by omega) lm) (.inl (by show lo - 1000 ≤ a; omega)) (.inl s3.2) (by show ((((List.range (b - a).toNat).map (fun k : Nat => f (a + (k : Nat)))).length : Nat) : Int) ≤ hi - lo; rw [List.length_map, List.length_range]; omega)
                rw [em] at this
                unfold patD bools at this
                rw [List.map_map] at this
                exact this
/-! ### edges_of -/
def lensOf (ps : List Pat) : List Nat := ps.flatMap fun p => [p.left.length, p.right.length]
theorem lensOf_step {ps : List Pat} {i : Nat} {p : Pat} (h : ps[i]? = some p) : lensOf (ps.take (i + 1)) = lensOf (ps.take i) ++ [p.left.length, p.right.length] := by
  unfold lensOf
  rw [List.take_add_one, h, Option.toList_some, List.flatMap_append]
  rfl
theorem lensOf_len (ps : List Pat) : (lensOf ps).length = 2 * ps.length := by
  induction ps with
  | nil => rfl
  | cons p ps ih =>
    unfold lensOf at ih ⊢
    rw [List.flatMap_cons, List.length_append, ih]
    simp
    omega
def a_edges_of : Asp := fun rs P => ∃ ps : List Pat, rs = [.vw (ps.map patD)] ∧ ps ≠ [] ∧ (∀ p ∈ ps, p.Ok) ∧ ps.length ≤ 10 ∧ lcms 1 (lensOf ps) ≤ 10000000 ∧ ∀ lo hi : Int, (∃ p ∈ ps, p.start = lo) → (∀ p ∈ ps, lo ≤ p.start) → (∃ p ∈ ps, p.fin = hi) → (∀ p ∈ ps, p.fin ≤ hi) → P (.dat (.tuple [.int (lcms 1 (lensOf ps) : Nat), .int lo, .int hi]))
set_option maxHeartbeats 8000000 in
theorem ok_edges_of (T : Txt K mg) : FnOk P w K mg base CX0 3 T.a_edges_of T.fd_edges_of ["patterns"] (pSp K a_edges_of) := by
  refine def_pure (N := n_edges_of) (k := 2) T.F_edges_of sc_edges_of (by intro rs R h; unfold a_edges_of at h; repeat (first | (obtain ⟨rfl, _⟩ := h; rfl) | (obtain ⟨_, h⟩ := h))) (fun cdv A outer s H E hr => ⟨_, (ss_cons (st_set 1 sc_edges_of.nd (ae_call (ok_common_multiple T) (hr.mono (by decide)) (by rfl) T.m_common_multiple T.F_common_multiple.kp T.b_common_multiple pass0 (aa_cons (ae_lc2 (own := [("pattern", 3), ("row", 4)]) (vs1 := [4]) rfl sc_edges_of.nd (ai_seq (ae_var 0)) (blkOk_by (N := n_edges_of) (sc := defScope s_edges_of) (by decide +kernel)) (by decide) (fun _ _ _ _ _ => (ag_name 3 sc_edges_of.nd)) (fun _ _ _ _ _ => ats_nil) (fun _ _ _ _ _ => (ae_tup (aa_cons (ae_ix (ae_var 3) ae_int) (aa_cons (ae_ix (ae_var 3) ae_int) aa_nil)))) (fun _ _ _ _ _ => (ag_name 4 sc_edges_of.nd)) (fun _ _ _ _ _ => ats_nil) (fun _ _ _ _ _ => (ae_blt ka_len (by rfl) T.z_len bo_len (aa_cons (ae_var 4) aa_nil)))) aa_nil)))
    (ss_cons (st_set 2 sc_edges_of.nd (ae_blt (ka_min rfl) (by rfl) T.z_min bo_min (aa_cons (ae_lc (own := [("pattern", 3)]) rfl sc_edges_of.nd (ai_seq (ae_var 0)) (blkOk_by (N := n_edges_of) (sc := defScope s_edges_of) (by decide +kernel)) (fun _ _ _ _ _ => (ag_name 3 sc_edges_of.nd)) (fun _ _ _ _ _ => ats_nil) (fun _ _ _ _ _ => (ae_ix (ae_var 3) ae_int))) aa_nil)))
    (ss_one (st_ret (ae_tup (aa_cons (ae_var 1) (aa_cons (ae_var 2) (aa_cons (ae_blt (ka_max rfl) (by rfl) T.z_max bo_max (aa_cons (ae_lc (own := [("pattern", 3)]) rfl sc_edges_of.nd (ai_seq (ae_var 0)) (blkOk_by (N := n_edges_of) (sc := defScope s_edges_of) (by decide +kernel)) (fun _ _ _ _ _ => (ag_name 3 sc_edges_of.nd)) (fun _ _ _ _ _ => ats_nil) (fun _ _ _ _ _ => (ae_op oa_add (ae_ix (ae_var 3) ae_int) (ae_blt ka_len (by rfl) T.z_len bo_len (aa_cons (ae_ix (ae_var 3) ae_int) aa_nil))))) aa_nil)) aa_nil)))))))), fun rs R h => ?_⟩)
  obtain ⟨ps, rfl, h0, hok, hl, hm, q⟩ := h
  have hpos : 0 < ps.length := List.length_pos_iff.mpr h0
  walk_at "ab"
  refine ⟨fun i acc => acc = natD (lensOf (ps.take i)), rfl, ?_, ?_⟩
  · intro i p hi acc e
    subst e
    unfold patD bools
    walk_at "ab"
    have hil := (List.getElem?_eq_some_iff.mp hi).1
    refine ⟨fun j acc => acc = natD (lensOf (ps.take i) ++ [p.left.length, p.right.length].take j), by simp, ?_, ?_⟩
    · intro j d hj acc e
      subst e
      have hz : (natD (lensOf (ps.take i) ++ [p.left.length, p.right.length].take j)).length < sizeLine := by
        refine size_ok ?_
        unfold natD
        rw [List.length_map, List.length_append, lensOf_len, List.length_take, List.length_take]
        have : [p.left.length, p.right.length].length = 2 := rfl
        omega
      match j, hj with
      | 0, hj =>
        simp only [List.getElem?_cons_zero, Option.some.injEq] at hj
        subst hj
        walk_at "ab"
        refine ⟨hz, ?_⟩
        simp [natD]
      | 1, hj =>
        simp only [List.getElem?_cons_succ, List.getElem?_cons_zero, Option.some.injEq] at hj
        subst hj
        walk_at "ab"
        refine ⟨hz, ?_⟩
        simp [natD]
      | j + 2, hj => simp at hj
    · intro acc e
      subst e
      rw [lensOf_step hi]
      rfl
  · intro acc e
    subst e
    rw [List.take_of_length_le (Nat.le_refl _)]
    refine ⟨lensOf ps, rfl, fun n hn => ?_, hm, ?_⟩
    · obtain ⟨p, hp, hn⟩ := List.mem_flatMap.mp hn
      have ok := hok p hp
      have := List.length_pos_iff.mpr ok.l0
      have := List.length_pos_iff.mpr ok.r0
      have := ok.ll
      have := ok.rl
      simp only [List.mem_cons, List.not_mem_nil, or_false] at hn
      rcases hn with e | e <;> subst e <;> omega
    walk_at "ab"
    refine ⟨fun i acc => acc = ((ps.take i).map (·.start)).map .int, rfl, ?_, ?_⟩
    · intro i p hi acc e
      subst e
      have hil := (List.getElem?_eq_some_iff.mp hi).1
      unfold patD
      walk_at "ab"
      refine ⟨size_ok (by rw [List.length_take]; omega), ?_⟩
      rw [List.take_add_one, hi, Option.toList_some, List.map_append, List.map_append]
      rfl
    · intro acc e
      subst e
      rw [List.take_of_length_le (Nat.le_refl _)]
      refine .inr ⟨_, _, ps.map (·.start), rfl, rfl, intsOf_map _, by rw [List.length_map]; omega, fun lo h1 h2 => ?_⟩
      walk_at "ab"
      refine ⟨fun i acc => acc = ((ps.take i).map (·.fin)).map .int, rfl, ?_, ?_⟩
      · intro i p hi acc e
        subst e
        have hil := (List.getElem?_eq_some_iff.mp hi).1
        unfold patD bools
        walk_at "ab"
        refine ⟨size_ok (by rw [List.length_take]; omega), ?_⟩
        rw [List.take_add_one, hi, Option.toList_some, List.map_append, List.map_append]
        rfl
      · intro acc e
        subst e
        rw [List.take_of_length_le (Nat.le_refl _)]
        refine .inr ⟨_, _, ps.map (·.fin), rfl, rfl, intsOf_map _, by rw [List.length_map]; omega, fun hi g1 g2 => ?_⟩
        walk_at "ab"
        obtain ⟨p, hp, e1⟩ := List.mem_map.mp h1
        obtain ⟨p', hp', e2⟩ := List.mem_map.mp g1
        exact q lo hi ⟨p, hp, e1⟩ (fun p hp => h2 _ (List.mem_map.mpr ⟨p, hp, rfl⟩)) ⟨p', hp', e2⟩ fun p hp => g2 _ (List.mem_map.mpr ⟨p, hp, rfl⟩)
/-! ### beside -/
/-! #### dr -/
/-! the list that draws are made from -/
/-- the list that draws are made from: at st; the script's ints at scr; the tables of code objects -/
def Dr (K : PySem.W.Frag) (Tb : List (Addr × Str)) (st scr : Addr) (ns : List Int) (H : Hp) : Prop := (scr ≠ st ∧ SqL K H scr (ns.map V.int) ∧ ∃ a p s : Int, 0 ≤ p ∧ H st = some (.lst [.int a, .int p, .ref scr, .int s])) ∧ LamX.Tabs Tb H
def drW (K : PySem.W.Frag) (Tb : List (Addr × Str)) : Addr → (Hp → Prop) → Prop := fun st J => ∃ scr ns, J = Dr K Tb st scr ns
theorem drOk {K : PySem.W.Frag} {Tb : List (Addr × Str)} : ∀ a J H, drW K Tb a J → J H → (cx0 K (a :: Tb.map (·.1)) J H).Ok := by
  rintro st J H ⟨scr, ns, rfl⟩ ⟨⟨h1, h2, a, p, s, h3, h4⟩, ht⟩
  refine ⟨⟨⟨h1, h2, a, p, s, h3, h4⟩, ht⟩, ?_, ?_⟩
  · rintro H' ⟨⟨_, _, a, p, s, _, h⟩, ht'⟩ b hb
    rcases List.mem_cons.mp hb with e | e
    · rw [e, h]
      simp
    · obtain ⟨q, hq, e⟩ := List.mem_map.mp e
      obtain ⟨ts, hP, _⟩ := ht' q hq
      rw [← e, show H' q.1 = _ from hP]
      simp
  · rintro H1 H2 ⟨⟨_, g2, a', p', s', g3, g4⟩, gt⟩ k
    refine ⟨⟨h1, ?_, a', p', s', g3, k st _ (.inl (by show H st ≠ none; rw [h4]; simp)) g4⟩, tabs_keep gt fun b o n e => k b o (.inr n) e⟩
    rcases h2 with (h2 | ⟨o, h2⟩) | h2
    · rcases g2 with (g2 | ⟨o, g2⟩) | g2
      · exact .inl (.inl (k scr _ (.inl (by show H scr ≠ none; rw [h2]; simp)) g2))
      · exact .inl (.inr ⟨o, k scr _ (.inl (by show H scr ≠ none; rw [h2]; simp)) g2⟩)
      · exact .inr g2
    · rcases g2 with (g2 | ⟨o, g2⟩) | g2
      · exact .inl (.inl (k scr _ (.inl (by show H scr ≠ none; rw [h2]; simp)) g2))
      · exact .inl (.inr ⟨o, k scr _ (.inl (by show H scr ≠ none; rw [h2]; simp)) g2⟩)
      · exact .inr g2
    · exact .inr h2
/-- the lambda's table, of what stands -/
theorem dr_tab {K : PySem.W.Frag} {Tb : List (Addr × Str)} {st : Addr} {J : Hp → Prop} {Pt : Addr} {q : Str} (hW : drW K Tb st J) (hm : (Pt, q) ∈ Tb) (H : Hp) (j : J H) : LamX.TabS H Pt q := by
  obtain ⟨scr, ns, rfl⟩ := hW
  exact j.2 _ hm
theorem dr_tab2 {K : PySem.W.Frag} {Tb : List (Addr × Str)} {st : Addr} {J : Hp → Prop} {Pt : Addr} {q : Str} (hW : drW K Tb st J) (hm : (Pt, q) ∈ Tb) (hu : ∀ p ∈ Tb, p.1 = Pt → p.2 = q) (H H1 : Hp) (j : J H) (t1 : LamX.TabS H1 Pt q) (e : ∀ b o, b ≠ Pt → H b = some o → H1 b = some o) : J H1 := by
  obtain ⟨scr, ns, rfl⟩ := hW
  obtain ⟨⟨h1, h2, a, p, s, h3, h4⟩, ht⟩ := j
  obtain ⟨ts, hP, _⟩ := ht _ hm
  have nl : ∀ {b u}, H b = some u → (∀ ps, u ≠ .tbl ps) → b ≠ Pt := fun {b u} g n z => by
    rw [z, show H Pt = _ from hP] at g
    exact n _ (Option.some.inj g).symm
  refine ⟨⟨h1, ?_, a, p, s, h3, e _ _ (nl h4 fun _ z => by cases z) h4⟩, tabs_one ht hm hu t1 e⟩
  rcases h2 with (h2 | ⟨o, h2⟩) | h2
  · exact .inl (.inl (e _ _ (nl h2 fun _ z => by cases z) h2))
  · exact .inl (.inr ⟨o, e _ _ (nl h2 fun _ z => by cases z) h2⟩)
  · exact .inr h2
theorem dr_noext {K : PySem.W.Frag} {Tb : List (Addr × Str)} {st : Addr} {J : Hp → Prop} (hW : drW K Tb st J) (H : Hp) (j : J H) : ∀ b ∈ st :: Tb.map (·.1), ∀ φ, H b ≠ some (.ext φ) := by
  obtain ⟨scr, ns, rfl⟩ := hW
  intro b hb φ z
  rcases List.mem_cons.mp hb with e | e
  · obtain ⟨⟨_, _, a, p, s, _, h4⟩, _⟩ := j
    rw [e, h4] at z
    cases z
  · obtain ⟨q, hq, e⟩ := List.mem_map.mp e
    obtain ⟨ts, hP, _⟩ := j.2 q hq
    rw [← e, show H q.1 = _ from hP] at z
    cases z
/-- a pattern's rows repeat after per numbers -/
theorem inP_low {p : Pat} {lo y : Int} (h : lo ≤ p.start) (hy : y < lo) : inP p y = rowAt p.left y := by unfold inP; rw [if_pos (by omega)]
theorem inP_high {p : Pat} {hi y : Int} (h : p.fin ≤ hi) (hy : hi ≤ y) : inP p y = rowAt p.right y := by
  have : p.fin = p.start + p.mid.length := rfl
  unfold inP
  rw [if_neg (by omega), if_neg (by omega)]
theorem row_per {bs : List Bool} {per : Nat} (h : bs.length ∣ per) : Per (rowAt bs) per := by
  obtain ⟨k, ek⟩ := h
  rw [ek, Nat.mul_comm]
  exact (rowAt_per bs).of_mul k
def a_beside : Addr → Asp := fun st rs P => ∃ (p : Pat) (B : Int), rs = [.dat (patD p)] ∧ p.Ok ∧ lcms 1 (lensOf [p]) ≤ 1000 ∧ 0 ≤ B ∧ B ≤ 9000 ∧ -B ≤ p.start ∧ p.fin ≤ B ∧
  ∀ q : Pat, Wr (fun y => !inP p y) q → q.left.length ∣ lcms 1 (lensOf [p]) → q.right.length ∣ lcms 1 (lensOf [p]) → q.Ok → -(B + 1000) ≤ q.start → q.start ≤ B + 1000 → (q.mid.length : Int) ≤ p.mid.length → P (.dat (patD q))
set_option maxHeartbeats 8000000 in
theorem ok_beside (T : Txt K mg) (tb_beside : LamX.TabB base mg T.c_beside T.t_beside) : FnOk P w K mg base CX0 7 T.a_beside T.fd_beside ["pattern"] (dSp K (T.Tb.map (·.1)) (drW K T.Tb) a_beside) := by
  refine def_tab (N := n_beside) (k := 6) T.F_beside sc_beside (by intro st rs R h; unfold a_beside at h; repeat (first | (obtain ⟨rfl, _⟩ := h; rfl) | (obtain ⟨_, h⟩ := h))) drOk (fun A outer s H E st J hW hJ hr => ⟨_, (ss_cons (st_asgT (ae_call (ok_edges_of T) (hr.mono (by decide)) (by rfl) T.m_edges_of T.F_edges_of.kp T.b_edges_of pass0 (aa_cons (ae_lst (aa_cons (ae_var 0) aa_nil)) aa_nil)) (ag_tup rfl (ags_cons 1 sc_beside.nd (ags_cons 2 sc_beside.nd (ags_cons 3 sc_beside.nd ags_nil)))))
    (ss_one (st_ret (ae_callLam (kl := 1) (n := 0) (y := "number") (N := ["number", "pattern"]) (fr := ["pattern"]) (js := [0]) (No := n_beside) (sc := defScope s_beside) (fun b' => (ok_made T)) (hr.mono (by decide)) (by rfl) T.m_made T.F_made.kp T.b_made tb_beside rfl (dr_tab hW T.mem_beside) (dr_tab2 hW T.mem_beside T.only_beside) T.in_beside (dr_noext hW) rfl rfl ⟨NdefX.nscope_by (by decide +kernel), rfl, by decide +kernel, by decide +kernel, rfl⟩ (fun _ => rfl) rfl (fun _ _ _ _ _ _ => rfl) (fun b' f c' cl A' outer s H E hr => (ae_not (ae_call (ok_is_in T) (hr.mono (by decide)) (by rfl) T.m_is_in T.F_is_in.kp T.b_is_in pass0 (aa_cons (ae_var 1) (aa_cons (ae_var 0) aa_nil))))) (aa_cons (ae_var 1) (aa_cons (ae_var 2) (aa_cons (ae_var 3) aa_nil))))))), fun rs R h => ?_⟩)
  obtain ⟨p, bd, rfl, ok, hl, B0, B1, s0, s1, q⟩ := h
  walk_at "ab"
  refine ⟨[p], rfl, by simp, by simpa using ok, by simp, by omega, fun lo hi ⟨p', e1, e2⟩ _ ⟨p'', e3, e4⟩ _ => ?_⟩
  simp only [List.mem_cons, List.not_mem_nil, or_false] at e1 e3
  rw [e1] at e2
  rw [e3] at e4
  have hfin : p.fin = p.start + p.mid.length := rfl
  walk_at "ab"
  have n1 := List.length_pos_iff.mpr ok.l0
  have n2 := List.length_pos_iff.mpr ok.r0
  have dl : p.left.length ∣ lcms 1 (lensOf [p]) := lcms_mem _ _ _ (by simp [lensOf])
  have dr : p.right.length ∣ lcms 1 (lensOf [p]) := lcms_mem _ _ _ (by simp [lensOf])
  have pp : 0 < lcms 1 (lensOf [p]) := lcms_pos _ _ (by omega) fun n hn => by
    simp only [lensOf, List.flatMap_cons, List.flatMap_nil, List.append_nil, List.mem_cons, List.not_mem_nil, or_false] at hn
    omega
  generalize lcms 1 (lensOf [p]) = per at *
  intro B
  refine ⟨_, _, fun y => !inP p y, per, _, _, rfl, fun v h => h, fun n P h1 h2 h3 => ?_, pp, hl, by omega, by omega, by omega, by omega, ⟨fun y => !rowAt p.left y, fun y => by show (!_) = (!_); rw [row_per dl y], fun y hy => by dsimp only; rw [inP_low (lo := lo) (by omega) hy]⟩, ⟨fun y => !rowAt p.right y, fun y => by show (!_) = (!_); rw [row_per dr y], fun y hy => by dsimp only; rw [inP_high (hi := hi) (by omega) hy]⟩, fun q' w d1 d2 okq u1 u2 u3 => ⟨⟨_, rfl⟩, rfl, q q' w d1 d2 okq (by omega) (by omega) (by omega)⟩⟩
  refine ⟨_, rfl, ?_⟩
  show aCall a_is_in _ [some (.dat (.int n)), some (.dat (patD p))] _
  walk_at "ab"
  exact ⟨p, _, rfl, ok, _, rfl, h3⟩
/-! ### union -/
def a_union : Addr → Asp := fun st rs P => ∃ (p p2 : Pat) (B : Int), rs = [.dat (patD p), .dat (patD p2)] ∧ p.Ok ∧ p2.Ok ∧ lcms 1 (lensOf [p, p2]) ≤ 1000 ∧ 0 ≤ B ∧ B ≤ 9000 ∧ -B ≤ p.start ∧ p.fin ≤ B ∧ -B ≤ p2.start ∧ p2.fin ≤ B ∧
  ∀ q : Pat, Wr (fun y => inP p y || inP p2 y) q → q.left.length ∣ lcms 1 (lensOf [p, p2]) → q.right.length ∣ lcms 1 (lensOf [p, p2]) → q.Ok → -(B + 1000) ≤ q.start → q.start ≤ B + 1000 → (q.mid.length : Int) ≤ 2 * B → P (.dat (patD q))
set_option maxHeartbeats 8000000 in
theorem ok_union (T : Txt K mg) (tb_union : LamX.TabB base mg T.c_union T.t_union) : FnOk P w K mg base CX0 7 T.a_union T.fd_union ["first", "second"] (dSp K (T.Tb.map (·.1)) (drW K T.Tb) a_union) := by
  refine def_tab (N := n_union) (k := 6) T.F_union sc_union (by intro st rs R h; unfold a_union at h; repeat (first | (obtain ⟨rfl, _⟩ := h; rfl) | (obtain ⟨_, h⟩ := h))) drOk (fun A outer s H E st J hW hJ hr => ⟨_, (ss_cons (st_asgT (ae_call (ok_edges_of T) (hr.mono (by decide)) (by rfl) T.m_edges_of T.F_edges_of.kp T.b_edges_of pass0 (aa_cons (ae_lst (aa_cons (ae_var 0) (aa_cons (ae_var 1) aa_nil))) aa_nil)) (ag_tup rfl (ags_cons 2 sc_union.nd (ags_cons 3 sc_union.nd (ags_cons 4 sc_union.nd ags_nil)))))
    (ss_one (st_ret (ae_callLam (kl := 1) (n := 0) (y := "number") (N := ["number", "first", "second"]) (fr := ["first", "second"]) (js := [0, 1]) (No := n_union) (sc := defScope s_union) (fun b' => (ok_made T)) (hr.mono (by decide)) (by rfl) T.m_made T.F_made.kp T.b_made tb_union rfl (dr_tab hW T.mem_union) (dr_tab2 hW T.mem_union T.only_union) T.in_union (dr_noext hW) rfl rfl ⟨NdefX.nscope_by (by decide +kernel), rfl, by decide +kernel, by decide +kernel, rfl⟩ (fun _ => rfl) rfl (fun _ _ _ _ _ _ => rfl) (fun b' f c' cl A' outer s H E hr => (ae_or (ae_call (ok_is_in T) (hr.mono (by decide)) (by rfl) T.m_is_in T.F_is_in.kp T.b_is_in pass0 (aa_cons (ae_var 1) (aa_cons (ae_var 0) aa_nil))) (ae_one (ae_call (ok_is_in T) (hr.mono (by decide)) (by rfl) T.m_is_in T.F_is_in.kp T.b_is_in pass0 (aa_cons (ae_var 2) (aa_cons (ae_var 0) aa_nil)))))) (aa_cons (ae_var 2) (aa_cons (ae_var 3) (aa_cons (ae_var 4) aa_nil))))))), fun rs R h => ?_⟩)
  obtain ⟨p, p2, bd, rfl, ok, ok2, hl, B0, B1, s0, s1, t0, t1, q⟩ := h
  walk_at "ab"
  refine ⟨[p, p2], rfl, by simp, by simp only [List.mem_cons, List.not_mem_nil, or_false, forall_eq_or_imp, forall_eq]; exact ⟨ok, ok2⟩, by simp, by omega, fun lo hi ⟨p', e1, e2⟩ lo1 ⟨p'', e3, e4⟩ hi1 => ?_⟩
  simp only [List.mem_cons, List.not_mem_nil, or_false, forall_eq_or_imp, forall_eq] at e1 e3 lo1 hi1
  have lo2 : -bd ≤ lo := by rcases e1 with e | e <;> rw [e] at e2 <;> omega
  have hi2 : hi ≤ bd := by rcases e3 with e | e <;> rw [e] at e4 <;> omega
  have hfin : p.fin = p.start + p.mid.length := rfl
  have hfin2 : p2.fin = p2.start + p2.mid.length := rfl
  walk_at "ab"
  have n1 := List.length_pos_iff.mpr ok.l0
  have n2 := List.length_pos_iff.mpr ok.r0
  have n3 := List.length_pos_iff.mpr ok2.l0
  have n4 := List.length_pos_iff.mpr ok2.r0
  have dl : p.left.length ∣ lcms 1 (lensOf [p, p2]) := lcms_mem _ _ _ (by simp [lensOf])
  have dr : p.right.length ∣ lcms 1 (lensOf [p, p2]) := lcms_mem _ _ _ (by simp [lensOf])
  have dl2 : p2.left.length ∣ lcms 1 (lensOf [p, p2]) := lcms_mem _ _ _ (by simp [lensOf])
  have dr2 : p2.right.length ∣ lcms 1 (lensOf [p, p2]) := lcms_mem _ _ _ (by simp [lensOf])
  have pp : 0 < lcms 1 (lensOf [p, p2]) := lcms_pos _ _ (by omega) fun n hn => by
    simp only [lensOf, List.flatMap_cons, List.flatMap_nil, List.append_nil, List.cons_append, List.nil_append, List.mem_cons, List.not_mem_nil, or_false] at hn
    omega
  generalize lcms 1 (lensOf [p, p2]) = per at *
  intro B
  refine ⟨_, _, fun y => inP p y || inP p2 y, per, _, _, rfl, fun v h => h, fun n P h1 h2 h3 => ?_, pp, hl, by omega, by omega, by omega, by omega, ⟨fun y => rowAt p.left y || rowAt p2.left y, fun y => by show (_ || _) = (_ || _); rw [row_per dl y, row_per dl2 y], fun y hy => by dsimp only; rw [inP_low (lo := lo) (by omega) hy, inP_low (lo := lo) (by omega) hy]⟩, ⟨fun y => rowAt p.right y || rowAt p2.right y, fun y => by show (_ || _) = (_ || _); rw [row_per dr y, row_per dr2 y], fun y hy => by dsimp only; rw [inP_high (hi := hi) (by omega) hy, inP_high (hi := hi) (by omega) hy]⟩, fun q' w d1 d2 okq u1 u2 u3 => ⟨⟨_, rfl⟩, rfl, q q' w d1 d2 okq (by omega) (by omega) (by omega)⟩⟩
  refine ⟨_, rfl, ?_⟩
  show aOrV _ _ [some (.dat (.int n)), some (.dat (patD p)), some (.dat (patD p2))] _
  walk_at "ab"
  refine ⟨p, _, rfl, ok, ?_⟩
  dsimp only at h3
  cases e1 : inP p n with
  | true =>
    rw [e1] at h3
    walk_at "ab"
    exact h3
  | false =>
    rw [e1] at h3
    walk_at "ab"
    exact ⟨p2, _, rfl, ok2, rfl, by simpa using h3⟩
/-! ### meet -/
def a_meet : Addr → Asp := fun st rs P => ∃ (p p2 : Pat) (B : Int), rs = [.dat (patD p), .dat (patD p2)] ∧ p.Ok ∧ p2.Ok ∧ lcms 1 (lensOf [p, p2]) ≤ 1000 ∧ 0 ≤ B ∧ B ≤ 9000 ∧ -B ≤ p.start ∧ p.fin ≤ B ∧ -B ≤ p2.start ∧ p2.fin ≤ B ∧
  ∀ q : Pat, Wr (fun y => inP p y && inP p2 y) q → q.left.length ∣ lcms 1 (lensOf [p, p2]) → q.right.length ∣ lcms 1 (lensOf [p, p2]) → q.Ok → -(B + 1000) ≤ q.start → q.start ≤ B + 1000 → (q.mid.length : Int) ≤ 2 * B → P (.dat (patD q))
set_option maxHeartbeats 8000000 in
theorem ok_meet (T : Txt K mg) (tb_meet : LamX.TabB base mg T.c_meet T.t_meet) : FnOk P w K mg base CX0 7 T.a_meet T.fd_meet ["first", "second"] (dSp K (T.Tb.map (·.1)) (drW K T.Tb) a_meet) := by
  refine def_tab (N := n_meet) (k := 6) T.F_meet sc_meet (by intro st rs R h; unfold a_meet at h; repeat (first | (obtain ⟨rfl, _⟩ := h; rfl) | (obtain ⟨_, h⟩ := h))) drOk (fun A outer s H E st J hW hJ hr => ⟨_, (ss_cons (st_asgT (ae_call (ok_edges_of T) (hr.mono (by decide)) (by rfl) T.m_edges_of T.F_edges_of.kp T.b_edges_of pass0 (aa_cons (ae_lst (aa_cons (ae_var 0) (aa_cons (ae_var 1) aa_nil))) aa_nil)) (ag_tup rfl (ags_cons 2 sc_meet.nd (ags_cons 3 sc_meet.nd (ags_cons 4 sc_meet.nd ags_nil)))))
    (ss_one (st_ret (ae_callLam (kl := 1) (n := 0) (y := "number") (N := ["number", "first", "second"]) (fr := ["first", "second"]) (js := [0, 1]) (No := n_meet) (sc := defScope s_meet) (fun b' => (ok_made T)) (hr.mono (by decide)) (by rfl) T.m_made T.F_made.kp T.b_made tb_meet rfl (dr_tab hW T.mem_meet) (dr_tab2 hW T.mem_meet T.only_meet) T.in_meet (dr_noext hW) rfl rfl ⟨NdefX.nscope_by (by decide +kernel), rfl, by decide +kernel, by decide +kernel, rfl⟩ (fun _ => rfl) rfl (fun _ _ _ _ _ _ => rfl) (fun b' f c' cl A' outer s H E hr => (ae_and (ae_call (ok_is_in T) (hr.mono (by decide)) (by rfl) T.m_is_in T.F_is_in.kp T.b_is_in pass0 (aa_cons (ae_var 1) (aa_cons (ae_var 0) aa_nil))) (ae_one (ae_call (ok_is_in T) (hr.mono (by decide)) (by rfl) T.m_is_in T.F_is_in.kp T.b_is_in pass0 (aa_cons (ae_var 2) (aa_cons (ae_var 0) aa_nil)))))) (aa_cons (ae_var 2) (aa_cons (ae_var 3) (aa_cons (ae_var 4) aa_nil))))))), fun rs R h => ?_⟩)
  obtain ⟨p, p2, bd, rfl, ok, ok2, hl, B0, B1, s0, s1, t0, t1, q⟩ := h
  walk_at "ab"
  refine ⟨[p, p2], rfl, by simp, by simp only [List.mem_cons, List.not_mem_nil, or_false, forall_eq_or_imp, forall_eq]; exact ⟨ok, ok2⟩, by simp, by omega, fun lo hi ⟨p', e1, e2⟩ lo1 ⟨p'', e3, e4⟩ hi1 => ?_⟩
  simp only [List.mem_cons, List.not_mem_nil, or_false, forall_eq_or_imp, forall_eq] at e1 e3 lo1 hi1
  have lo2 : -bd ≤ lo := by rcases e1 with e | e <;> rw [e] at e2 <;> omega
  have hi2 : hi ≤ bd := by rcases e3 with e | e <;> rw [e] at e4 <;> omega
  have hfin : p.fin = p.start + p.mid.length := rfl
  have hfin2 : p2.fin = p2.start + p2.mid.length := rfl
  walk_at "ab"
  have n1 := List.length_pos_iff.mpr ok.l0
  have n2 := List.length_pos_iff.mpr ok.r0
  have n3 := List.length_pos_iff.mpr ok2.l0
  have n4 := List.length_pos_iff.mpr ok2.r0
  have dl : p.left.length ∣ lcms 1 (lensOf [p, p2]) := lcms_mem _ _ _ (by simp [lensOf])
  have dr : p.right.length ∣ lcms 1 (lensOf [p, p2]) := lcms_mem _ _ _ (by simp [lensOf])
  have dl2 : p2.left.length ∣ lcms 1 (lensOf [p, p2]) := lcms_mem _ _ _ (by simp [lensOf])
  have dr2 : p2.right.length ∣ lcms 1 (lensOf [p, p2]) := lcms_mem _ _ _ (by simp [lensOf])
  have pp : 0 < lcms 1 (lensOf [p, p2]) := lcms_pos _ _ (by omega) fun n hn => by
    simp only [lensOf, List.flatMap_cons, List.flatMap_nil, List.append_nil, List.cons_append, List.nil_append, List.mem_cons, List.not_mem_nil, or_false] at hn
    omega
  generalize lcms 1 (lensOf [p, p2]) = per at *
  intro B
  refine ⟨_, _, fun y => inP p y && inP p2 y, per, _, _, rfl, fun v h => h, fun n P h1 h2 h3 => ?_, pp, hl, by omega, by omega, by omega, by omega, ⟨fun y => rowAt p.left y && rowAt p2.left y, fun y => by show (_ && _) = (_ && _); rw [row_per dl y, row_per dl2 y], fun y hy => by dsimp only; rw [inP_low (lo := lo) (by omega) hy, inP_low (lo := lo) (by omega) hy]⟩, ⟨fun y => rowAt p.right y && rowAt p2.right y, fun y => by show (_ && _) = (_ && _); rw [row_per dr y, row_per dr2 y], fun y hy => by dsimp only; rw [inP_high (hi := hi) (by omega) hy, inP_high (hi := hi) (by omega) hy]⟩, fun q' w d1 d2 okq u1 u2 u3 => ⟨⟨_, rfl⟩, rfl, q q' w d1 d2 okq (by omega) (by omega) (by omega)⟩⟩
  refine ⟨_, rfl, ?_⟩
  show aAndV _ _ [some (.dat (.int n)), some (.dat (patD p)), some (.dat (patD p2))] _
  walk_at "ab"
  refine ⟨p, _, rfl, ok, ?_⟩
  dsimp only at h3
  cases e1 : inP p n with
  | true =>
    rw [e1] at h3
    walk_at "ab"
    exact ⟨p2, _, rfl, ok2, rfl, by simpa using h3⟩
  | false =>
    rw [e1] at h3
    walk_at "ab"
    exact h3
/-! ### _law_draw -/
/-- the list as it stands, all else as in H -/
def DrSt (st scr : Addr) (H H' : Hp) : Prop := (∃ a p s : Int, 0 ≤ p ∧ H' st = some (.lst [.int a, .int p, .ref scr, .int s])) ∧ ∀ b, b ≠ st → H' b = H b
theorem DrSt.put {st scr : Addr} {H H' : Hp} {a p s : Int} (h : ∀ b, b ≠ st → H' b = H b) (hp : 0 ≤ p) : DrSt st scr H (upd H' st (.lst [.int a, .int p, .ref scr, .int s])) :=
  ⟨⟨a, p, s, hp, upd_same⟩, fun b n => by rw [upd_ne n]; exact h b n⟩
def a_l_draw : Addr → Asp := fun st rs P => ∃ n : Int, rs = [.obj (isRef st), .dat (.int n)] ∧ 0 < n ∧ n < 1073741824 ∧ ∀ d : Int, 0 ≤ d → d < n → P (.dat (.int d))
set_option maxHeartbeats 8000000 in
theorem ok_l_draw (T : Txt K mg) : FnOk P w K mg base CX0 1 T.a_l_draw T.fd_l_draw ["_law_state", "_law_limit"] (dSp K (T.Tb.map (·.1)) (drW K T.Tb) a_l_draw) := by
  have nd := sc_l_draw.nd
  refine T.F_l_draw.ok sc_l_draw (fun vs H Q E h => ?_) (fun cdv A outer s H vs Q E hr h => ?_)
  · obtain ⟨st, J, rs, R, _, _, h1, ⟨n, rfl, _⟩, _⟩ := h
    exact (Paired.length h1).trans rfl
  · obtain ⟨st, J, rs, R, ⟨scr, ns, rfl⟩, ⟨⟨hne, hscr, a, p, sd, hp, hst⟩, htb⟩, hargs, ⟨n, rfl, n0, n1, hR⟩, q⟩ := h
    obtain ⟨v0, v1, rfl, r0, r1⟩ : ∃ v0 v1, vs = [v0, v1] ∧ ArgR K (st :: T.Tb.map (·.1)) H v0 (.obj (isRef st)) ∧ ArgR K (st :: T.Tb.map (·.1)) H v1 (.dat (.int n)) := by
      cases hargs with
      | cons a t =>
        cases t with
        | cons b t2 =>
          cases t2
          exact ⟨_, _, rfl, a, b⟩
    have e0 : v0 = .ref st := r0
    have e1 : v1 = .int n := r1.ro.int
    subst e0 e1
    refine ⟨_, Evl.pss_cut (ps_if (pt_cmpR op_lt (pe_ix ix_list (pv 0) pe_int (fun _ _ => rfl)) (pv 1) (nomark _))
        (pss_cons (ps_set (i := 3) nd rfl (.inl rfl) (pe_ix ix_list (pv 0) pe_int (fun _ _ => rfl)))
        (pss_cons (ps_asg (pe_op op_add (pv 3) pe_int) (pg_sub (pv 0) pe_int set_list))
        (pss_cons (ps_set (i := 4) nd rfl (.inl rfl) pe_int)
        (Evl.pss_cut (ps_if (pt_cmpR op_lt (pv 3) (pe_callB call_len_seq (by rfl) T.z_len bo_len (pa_cons (pe_ix ix_list (pv 0) pe_int (fun _ _ => rfl)) pa_nil)) (nomark _)) (pss_one (ps_set (i := 4) nd rfl (.inl rfl) (pe_ix ix_list (pe_ix ix_list (pv 0) pe_int (fun _ _ => rfl)) (pv 3) (fun _ _ => rfl)))) pss_nil)
        (pss_one (ps_if (pt_cmpR op_ge (pv 4) (pe_op op_pow pe_int pe_int) (nomark _))
          (pss_one (ps_asg (pv 4) (pg_sub (pv 0) pe_int set_list)))
          (pss_cons (ps_asg (pe_op op_modN (pe_callTy call_int1 (by rfl) T.z_int bo_int (pa_cons (pe_op op_mul (pe_op op_add (pe_op op_add (pe_op op_add (pe_ix ix_list (pv 0) pe_int (fun _ _ => rfl)) (pe_op op_modN (pe_callTy call_int1 (by rfl) T.z_int bo_int (pa_cons (pv 4) pa_nil)) pe_int)) (pv 3)) pe_int) pe_int) pa_nil)) pe_int) (pg_sub (pv 0) pe_int set_list))
          (pss_cons (ps_set (i := 5) nd rfl (.inl rfl) (pe_op op_modN (pe_callTy call_int1 (by rfl) T.z_int bo_int (pa_cons (pe_op op_add (pe_op op_mul (pe_ix ix_list (pv 0) pe_int (fun _ _ => rfl)) pe_int) pe_int) pa_nil)) pe_int))
          (pss_one (ps_asg (pe_op op_add (pe_op op_mul (pv 5) pe_int) (pe_op op_modN (pe_callTy call_int1 (by rfl) T.z_int bo_int (pa_cons (pe_op op_add (pe_op op_mul (pv 5) pe_int) (pe_ix ix_list (pv 0) pe_int (fun _ _ => rfl))) pa_nil)) pe_int)) (pg_sub (pv 0) pe_int set_list)))))))))))
        pss_nil)
      (pss_cons (ps_set (i := 2) nd rfl (.inl rfl) (pe_op op_modN (pe_callTy call_int1 (by rfl) T.z_int bo_int (pa_cons (pe_ix ix_list (pv 0) pe_int (fun _ _ => rfl)) pa_nil)) (pv 1)))
      (pss_cons (ps_asg (pe_op op_fdivN (pe_ix ix_list (pv 0) pe_int (fun _ _ => rfl)) (pv 1)) (pg_sub (pv 0) pe_int set_list))
      (pss_one (ps_ret (pv 2))))), ?_⟩
    have scr_at : ∀ H', (∀ b, b ≠ st → H' b = H b) → SqL K H' scr (ns.map V.int) := fun H' k => by
      rcases hscr with (h2 | ⟨o, h2⟩) | h2
      · exact .inl (.inl (by rw [k scr hne]; exact h2))
      · exact .inl (.inr ⟨o, by rw [k scr hne]; exact h2⟩)
      · exact .inr h2
    refine ⟨fun σ H' => DrSt st scr H H' ∧ ∃ y2 y3 y4 y5, σ = [some (.ref st), some (.int n), y2, y3, y4, y5], ?_, ?_⟩
    · -- if _law_state[0] < _law_limit
      refine ⟨_, rfl, st, _, 0, .int a, rfl, rfl, SqL.of hst, rfl, _, rfl, a, n, rfl, rfl, _, rfl, ?_⟩
      refine ite2 (fun _ => ?_) (fun _ => ⟨⟨⟨a, p, sd, hp, hst⟩, fun _ _ => rfl⟩, none, none, none, none, rfl⟩)
      -- position = state[1]; state[1] = position + 1; cell = 0
      refine ⟨_, rfl, st, _, 1, .int p, rfl, rfl, SqL.of hst, rfl, ?_⟩
      refine ⟨_, rfl, p, 1, rfl, rfl, _, rfl, st, _, 1, 1, rfl, rfl, hst, rfl, ?_⟩
      have k1 : ∀ b, b ≠ st → (upd H st (.lst [.int a, .int (p + 1), .ref scr, .int sd])) b = H b := fun b n => upd_ne n
      refine ⟨fun σ H' => H' = upd H st (.lst [.int a, .int (p + 1), .ref scr, .int sd]) ∧ ∃ m y2 y5, σ = [some (.ref st), some (.int n), y2, some (.int p), some (.int m), y5], ?_, ?_⟩
      · -- if position < len(state[2]): cell = state[2][position]
        refine ⟨_, rfl, _, rfl, st, _, 2, .ref scr, rfl, rfl, SqL.of upd_same, rfl, scr, ns.map V.int, rfl, .inl (scr_at _ k1), p, ((ns.map V.int).length : Int), rfl, rfl, _, rfl, ?_⟩
        refine ite2 (fun c => ?_) (fun _ => ⟨rfl, 0, none, none, rfl⟩)
        have c' := of_decide_eq_true c
        rw [List.length_map] at c'
        have hlt : p.toNat < ns.length := by omega
        refine ⟨_, rfl, st, _, 2, .ref scr, rfl, rfl, SqL.of upd_same, rfl, _, rfl, scr, ns.map V.int, p, .int (ns[p.toNat]), rfl, rfl, scr_at _ k1, ?_, rfl, ns[p.toNat], none, none, rfl⟩
        rw [Ab.atI_pos hp (by rw [List.length_map]; exact c'), List.getElem?_map, List.getElem?_eq_getElem hlt]
        rfl
      · rintro σ' H' ⟨rfl, m, y2, y5, rfl⟩
        refine ⟨_, rfl, 10, 18, rfl, rfl, ⟨by decide, by decide, by decide⟩, m, _, rfl, rfl, _, rfl, ?_⟩
        refine ite2 (fun _ => ?_) (fun _ => ?_)
        · refine ⟨_, rfl, _, rfl, st, _, 0, 0, rfl, rfl, upd_same, rfl, DrSt.put k1 (by omega), y2, some (.int p), some (.int m), y5, rfl⟩
        · have nz : ∀ {z : Int}, z ≠ 0 → z ≠ 0 := fun h => h
          refine ⟨_, rfl, st, _, 3, .int sd, rfl, rfl, SqL.of upd_same, rfl, _, rfl, .inl ⟨m, rfl, _, _, rfl, rfl, nz (by decide), _, _, rfl, rfl, _, rfl, _, _, rfl, rfl, _, _, rfl, rfl, _, _, rfl, rfl, .inr ⟨by decide, by decide⟩, .inl ⟨_, rfl, _, _, rfl, rfl, nz (by decide), _, rfl, st, _, 3, 3, rfl, rfl, upd_same, rfl, ?_⟩⟩⟩
          refine ⟨_, rfl, st, _, 3, .int _, rfl, rfl, SqL.of upd_same, rfl, _, _, rfl, rfl, .inr ⟨by decide, by decide⟩, _, _, rfl, rfl, .inl ⟨_, rfl, _, _, rfl, rfl, nz (by decide), ?_⟩⟩
          refine ⟨_, rfl, _, _, rfl, rfl, .inr ⟨by decide, by decide⟩, _, rfl, _, _, rfl, rfl, .inr ⟨by decide, by decide⟩, _, rfl, st, _, 3, .int _, rfl, rfl, SqL.of upd_same, rfl, _, _, rfl, rfl, .inl ⟨_, rfl, _, _, rfl, rfl, nz (by decide), _, _, rfl, rfl, _, rfl, st, _, 0, 0, rfl, rfl, upd_same, rfl, ?_⟩⟩
          exact ⟨DrSt.put (fun b n => by rw [upd_ne n]; exact k1 b n) (by omega), y2, some (.int p), some (.int m), some (.int _), rfl⟩
    · rintro σ' H' ⟨⟨⟨a', p', s', hp', hst'⟩, k'⟩, y2, y3, y4, y5, rfl⟩
      refine ⟨_, rfl, st, _, 0, .int a', rfl, rfl, SqL.of hst', rfl, .inl ⟨a', rfl, _, rfl, a', n, rfl, rfl, by omega, ?_⟩⟩
      refine ⟨_, rfl, st, _, 0, .int a', rfl, rfl, SqL.of hst', rfl, _, rfl, a', n, rfl, rfl, ⟨by omega, by omega⟩, _, rfl, st, _, 0, 0, rfl, rfl, hst', rfl, ?_⟩
      refine ⟨_, rfl, ?_⟩
      have e := fmod_pos (i := a') n0
      refine q _ _ (.dat (.int (a'.fmod n))) ⟨fun b o nb hb => ?_, fun b xs hb => ?_⟩ ⟨⟨hne, ?_, a'.fdiv n, p', s', hp', upd_same⟩, fun q hq => ?_⟩ (rr_int _) rfl (hR _ (by rw [e]; exact Int.emod_nonneg _ (by omega)) (by rw [e]; exact Int.emod_lt_of_pos _ n0))
      · have nb' : b ≠ st := fun z => nb (by simp [z])
        rw [upd_ne nb', k' b nb']
        exact hb
      · have nb' : b ≠ st := fun z => by
          subst z
          rcases hb with hb | ⟨o, hb⟩
          · rw [hst] at hb; cases hb
          · rw [hst] at hb; cases hb
        rcases hb with hb | ⟨o, hb⟩
        · exact .inl (by rw [upd_ne nb', k' b nb']; exact hb)
        · exact .inr ⟨o, by rw [upd_ne nb', k' b nb']; exact hb⟩
      · exact scr_at _ fun b n => by rw [upd_ne n]; exact k' b n
      · obtain ⟨ts, hP, ok3, hc⟩ := htb q hq
        have up : ∀ b o, (∀ xs, o ≠ .lst xs) → H b = some o → (upd H' st (.lst [.int (a'.fdiv n), .int p', .ref scr, .int s'])) b = some o := fun b o nl e => by
          have nb' : b ≠ st := fun z => by
            rw [z, hst] at e
            exact nl _ (Option.some.inj e).symm
          rw [upd_ne nb', k' b nb']
          exact e
        exact tabS_keep ⟨ts, hP, ok3, hc⟩ up
/-! ### _law_row -/
def a_l_row : Addr → Asp := fun st rs P => ∃ lo hi : Int, rs = [.obj (isRef st), .dat (.int lo), .dat (.int hi)] ∧ 0 ≤ lo ∧ lo ≤ hi ∧ hi ≤ 1000 ∧ ∀ bs : List Bool, lo ≤ bs.length → (bs.length : Int) ≤ hi → P (.dat (bools bs))
set_option maxHeartbeats 8000000 in
theorem ok_l_row (T : Txt K mg) : FnOk P w K mg base CX0 2 T.a_l_row T.fd_l_row ["_law_state", "_law_least", "_law_most"] (dSp K (T.Tb.map (·.1)) (drW K T.Tb) a_l_row) := by
  refine def_draw (N := n_l_row) (k := 1) T.F_l_row sc_l_row (by intro st rs R h; unfold a_l_row at h; repeat (first | (obtain ⟨rfl, _⟩ := h; rfl) | (obtain ⟨_, h⟩ := h))) drOk (fun cdv A outer s H E st J hW hJ hr => ⟨_, (ss_one (st_ret (ae_ty ka_tuple (by rfl) T.z_tuple bo_tuple (aa_cons (ae_lc (own := [("_law_k", 3)]) rfl sc_l_row.nd (ai_r1 (by rfl) T.z_range (ae_op oa_add (ae_var 1) (ae_callD rfl hW (ok_l_draw T) (hr.mono (by decide)) (by rfl) T.m_l_draw T.F_l_draw.kp T.b_l_draw pass0 (aa_cons (ae_var 0) (aa_cons (ae_op oa_add (ae_op oa_sub (ae_var 2) (ae_var 1)) ae_int) aa_nil))))) (blkOk_by (N := n_l_row) (sc := defScope s_l_row) (by decide +kernel)) (fun _ _ _ _ _ => (ag_name 3 sc_l_row.nd)) (fun _ _ _ _ _ => ats_nil) (fun _ _ _ _ _ => (ae_cmp (oa_eq hr.units) (ae_callD rfl hW (ok_l_draw T) (hr.mono (by decide)) (by rfl) T.m_l_draw T.F_l_draw.kp T.b_l_draw pass0 (aa_cons (ae_var 0) (aa_cons ae_int aa_nil))) ae_int))) aa_nil)))), fun rs R h => ?_⟩)
  obtain ⟨lo, hi, rfl, h0, h1, h2, q⟩ := h
  walk_at "ab"
  refine ⟨_, rfl, by omega, by omega, fun d d0 d1 => ?_⟩
  walk_at "ab"
  refine ⟨by omega, by omega, fun i acc => ∃ bs : List Bool, bs.length = i ∧ acc = bs.map .bool, ⟨[], rfl, rfl⟩, ?_, ?_⟩
  · rintro i hi' acc ⟨bs, e1, rfl⟩
    refine ⟨2, rfl, by omega, by omega, fun x x0 x1 => ?_⟩
    walk_at "ab"
    exact ⟨size_ok (by omega), bs ++ [decide (x = 1)], by simp [e1], by simp⟩
  · rintro acc ⟨bs, e1, rfl⟩
    exact q bs (by omega) (by omega)
/-! ### _law_short -/
def a_l_short : Asp := fun rs P => ∃ bs : List Bool, rs = [.dat (bools bs)] ∧ bs ≠ [] ∧ bs.length ≤ 1000 ∧ ∀ cs : List Bool, Prim cs → (∀ y, rowAt cs y = rowAt bs y) → cs.length ≤ bs.length → P (.dat (bools cs))
set_option maxHeartbeats 8000000 in
theorem ok_l_short (T : Txt K mg) : FnOk P w K mg base CX0 1 T.a_l_short T.fd_l_short ["_law_row_here"] (pSp K a_l_short) := by
  refine def_pure (N := n_l_short) (k := 0) T.F_l_short sc_l_short (by intro rs R h; unfold a_l_short at h; repeat (first | (obtain ⟨rfl, _⟩ := h; rfl) | (obtain ⟨_, h⟩ := h))) (fun cdv A outer s H E hr => ⟨_, (ss_cons (st_for PassesOwn.never rfl (ai_r2 (by rfl) T.z_range ae_int (ae_op oa_add (ae_blt ka_len (by rfl) T.z_len bo_len (aa_cons (ae_var 0) aa_nil)) ae_int)) (ag_name 1 sc_l_short.nd)
      (ss_one (st_if (aw_and (at_cmp (oa_eq hr.units) (ae_op oa_mod (ae_ty ka_int (by rfl) T.z_int bo_int (aa_cons (ae_blt ka_len (by rfl) T.z_len bo_len (aa_cons (ae_var 0) aa_nil)) aa_nil)) (ae_var 1)) ae_int) (aw_and1 (at_cmp (oa_eq hr.units) (ae_var 0) (ae_op oa_mul (ae_slice (ae_var 0) ao_none (ao_some (ae_var 1))) (ae_op oa_fdiv (ae_blt ka_len (by rfl) T.z_len bo_len (aa_cons (ae_var 0) aa_nil)) (ae_var 1)))))).t
        (ss_one (st_ret (ae_slice (ae_var 0) ao_none (ao_some (ae_var 1)))))
        ss_nil)))
    (ss_one (st_ret (ae_var 0)))), fun rs R h => ?_⟩)
  obtain ⟨bs, rfl, h0, h1, q⟩ := h
  have L0 := List.length_pos_iff.mpr h0
  unfold bools at q ⊢
  walk_at "ab"
  refine ⟨by omega, by omega, by omega, by omega, fun i Γ => (∃ g, Γ = [some (.dat (.tuple (bs.map .bool))), g]) ∧ ∀ j, 0 < j → j ≤ i → ¬ Dv bs j, ⟨⟨none, rfl⟩, fun j _ _ => by omega⟩, ?_, ?_⟩
  · rintro i hi' Γ ⟨⟨g, rfl⟩, hno⟩
    refine ⟨_, rfl, ?_⟩
    walk_at "ab"
    have I0 : (0 : Int) < 1 + (i : Nat) := by omega
    rw [fmod_pos I0, fdiv_pos I0]
    refine ⟨by omega, ?_⟩
    have next : ¬ Dv bs (1 + i) → ∀ j, 0 < j → j ≤ i + 1 → ¬ Dv bs j := fun hd j j0 j1 => by
      by_cases e : j = 1 + i
      · rw [e]; exact hd
      · exact hno j j0 (by omega)
    by_cases c1 : (bs.length : Int) % (1 + (i : Nat)) = 0
    · simp only [c1, decide_true, if_true]
      have q0 : 0 ≤ (bs.length : Int) / (1 + (i : Nat)) := Int.ediv_nonneg (by omega) (by omega)
      have q1 : (bs.length : Int) / (1 + (i : Nat)) ≤ bs.length := Int.ediv_le_self _ (by omega)
      rw [cutD_to (by omega)]
      refine ⟨cdiv_pos I0 (by omega), by omega, by omega, by rw [List.length_take]; omega, ?_⟩
      by_cases c2 : bs = reps ((bs.length : Int) / (1 + (i : Nat))) (bs.take (1 + (i : Int)).toNat)
      · rw [decide_eq_true c2]
        simp only [if_true]
        obtain ⟨g1, g2, g3, g4⟩ := prim_take h0 (by omega) (dv_int.mpr ⟨c1, c2⟩) (fun j j0 j1 => hno j j0 (by omega))
        have e : (1 + (i : Int)).toNat = 1 + i := by omega
        rw [e]
        exact q _ g1 g2 (by omega)
      · rw [decide_eq_false c2]
        simp only [Bool.false_eq_true, if_false]
        exact ⟨⟨_, rfl⟩, next fun hd => c2 (dv_int.mp hd).2⟩
    · simp only [c1, decide_false, Bool.false_eq_true, if_false]
      exact ⟨⟨_, rfl⟩, next fun hd => c1 (dv_int.mp hd).1⟩
  · rintro Γ ⟨⟨g, rfl⟩, hno⟩
    exact absurd (dv_self h0) (hno _ L0 (by omega))
/-! ### _law_in -/
def a_l_in : Asp := fun rs P => ∃ (p : Pat) (n : Int), rs = [.dat (patD p), .dat (.int n)] ∧ p.Ok ∧ P (.dat (.bool (inP p n)))
set_option maxHeartbeats 8000000 in
theorem ok_l_in (T : Txt K mg) : FnOk P w K mg base CX0 1 T.a_l_in T.fd_l_in ["_law_pattern_here", "_law_y"] (pSp K a_l_in) := by
  refine def_pure (N := n_l_in) (k := 0) T.F_l_in sc_l_in (by intro rs R h; unfold a_l_in at h; repeat (first | (obtain ⟨rfl, _⟩ := h; rfl) | (obtain ⟨_, h⟩ := h))) (fun cdv A outer s H E hr => ⟨_, (ss_cons (st_asgT (ae_var 0) (ag_tup rfl (ags_cons 2 sc_l_in.nd (ags_cons 3 sc_l_in.nd (ags_cons 4 sc_l_in.nd (ags_cons 5 sc_l_in.nd ags_nil))))))
    (ss_cons (st_if (at_cmp oa_lt (ae_var 1) (ae_var 3))
      (ss_one (st_ret (ae_ix (ae_var 2) (ae_op oa_mod (ae_ty ka_int (by rfl) T.z_int bo_int (aa_cons (ae_var 1) aa_nil)) (ae_blt ka_len (by rfl) T.z_len bo_len (aa_cons (ae_var 2) aa_nil))))))
      ss_nil)
    (ss_cons (st_if (at_cmp oa_lt (ae_var 1) (ae_op oa_add (ae_var 3) (ae_blt ka_len (by rfl) T.z_len bo_len (aa_cons (ae_var 4) aa_nil))))
      (ss_one (st_ret (ae_ix (ae_var 4) (ae_op oa_sub (ae_var 1) (ae_var 3)))))
      ss_nil)
    (ss_one (st_ret (ae_ix (ae_var 5) (ae_op oa_mod (ae_ty ka_int (by rfl) T.z_int bo_int (aa_cons (ae_var 1) aa_nil)) (ae_blt ka_len (by rfl) T.z_len bo_len (aa_cons (ae_var 5) aa_nil))))))))), fun rs R h => ?_⟩)
  obtain ⟨p, n, rfl, ⟨l0, r0, ll, rl, ml, s0, s1⟩, q⟩ := h
  have L0 : (0 : Int) < p.left.length := by have := List.length_pos_iff.mpr l0; omega
  have R0 : (0 : Int) < p.right.length := by have := List.length_pos_iff.mpr r0; omega
  unfold inP Pat.fin at q
  unfold patD bools
  walk_at "ab"
  by_cases c1 : n < p.start
  · rw [if_pos c1] at q
    simp only [c1, decide_true, if_true]
    rw [fmod_pos L0]
    exact ⟨by omega, _, atI_map.mpr ⟨_, atI_getD (Int.emod_nonneg _ (by omega)) (Int.emod_lt_of_pos _ L0) false, rfl⟩, q⟩
  · rw [if_neg c1] at q
    simp only [c1, decide_false, Bool.false_eq_true, if_false]
    by_cases c2 : n < p.start + p.mid.length
    · rw [if_pos c2] at q
      simp only [c2, decide_true, if_true]
      exact ⟨_, atI_map.mpr ⟨_, atI_getD (by omega) (by omega) false, rfl⟩, q⟩
    · rw [if_neg c2] at q
      simp only [c2, decide_false, Bool.false_eq_true, if_false]
      rw [fmod_pos R0]
      exact ⟨by omega, _, atI_map.mpr ⟨_, atI_getD (Int.emod_nonneg _ (by omega)) (Int.emod_lt_of_pos _ R0) false, rfl⟩, q⟩
/-! ### _law_written -/
/-- a set is all right: it is as one row far below, as another one far above -/
theorem Pat.low {p : Pat} {y : Int} (h : y < p.start) : inP p y = rowAt p.left y := by unfold inP; rw [if_pos h]
theorem Pat.high {p : Pat} {y : Int} (h : p.fin ≤ y) : inP p y = rowAt p.right y := by
  have : p.start ≤ p.fin := by unfold Pat.fin; omega
  unfold inP
  rw [if_neg (by omega), if_neg (by omega)]
def a_l_written : Asp := fun rs P => ∃ p : Pat, rs = [.dat (patD p)] ∧ p.left ≠ [] ∧ p.right ≠ [] ∧ p.left.length ≤ 40 ∧ p.right.length ≤ 40 ∧ p.mid.length ≤ 10000 ∧ -100000 ≤ p.start ∧ p.start ≤ 100000 ∧
  ∀ q : Pat, Wr (inP p) q → q.left.length ≤ p.left.length → q.right.length ≤ p.right.length → (q.mid.length : Int) ≤ p.mid.length + 4 * (p.left.length * p.right.length) + 4 → -110000 ≤ q.start → q.start ≤ 120000 → (q.start = 0 ∨ (p.start - 2 * (p.left.length * p.right.length) - 2 ≤ q.start ∧ q.start ≤ p.start + p.mid.length + 2 * (p.left.length * p.right.length) + 2)) → P (.dat (patD q))
set_option maxHeartbeats 8000000 in
theorem ok_l_written (T : Txt K mg) : FnOk P w K mg base CX0 2 T.a_l_written T.fd_l_written ["_law_pattern_here"] (pSp K a_l_written) := by
  refine def_pure (N := n_l_written) (k := 1) T.F_l_written sc_l_written (by intro rs R h; unfold a_l_written at h; repeat (first | (obtain ⟨rfl, _⟩ := h; rfl) | (obtain ⟨_, h⟩ := h))) (fun cdv A outer s H E hr => ⟨_, (ss_cons (st_set 1 sc_l_written.nd (ae_call (ok_l_short T) (hr.mono (by decide)) (by rfl) T.m_l_short T.F_l_short.kp T.b_l_short pass0 (aa_cons (ae_ix (ae_var 0) ae_int) aa_nil)))
    (ss_cons (st_set 2 sc_l_written.nd (ae_call (ok_l_short T) (hr.mono (by decide)) (by rfl) T.m_l_short T.F_l_short.kp T.b_l_short pass0 (aa_cons (ae_ix (ae_var 0) ae_int) aa_nil)))
    (ss_cons (st_set 3 sc_l_written.nd (ae_op oa_mul (ae_blt ka_len (by rfl) T.z_len bo_len (aa_cons (ae_var 1) aa_nil)) (ae_blt ka_len (by rfl) T.z_len bo_len (aa_cons (ae_var 2) aa_nil))))
    (ss_cons (st_set 4 sc_l_written.nd (ae_lrange rfl (by rfl) T.z_list (by rfl) T.z_range (ae_op oa_sub (ae_op oa_sub (ae_ix (ae_var 0) ae_int) (ae_op oa_mul ae_int (ae_var 3))) ae_int) (ae_op oa_add (ae_op oa_add (ae_op oa_add (ae_ix (ae_var 0) ae_int) (ae_blt ka_len (by rfl) T.z_len bo_len (aa_cons (ae_ix (ae_var 0) ae_int) aa_nil))) (ae_op oa_mul ae_int (ae_var 3))) ae_int)))
    (ss_cons (st_setLc 5 (own := [("_law_y", 9)]) rfl sc_l_written.nd (ai_seq (ae_var 4)) (blkOk_by (N := n_l_written) (sc := defScope s_l_written) (by decide +kernel)) (fun _ _ _ _ _ => (ag_name 9 sc_l_written.nd)) (fun _ _ _ _ _ => (ats_one (at_cmp (oa_ne hr.units) (ae_call (ok_l_in T) (hr.mono (by decide)) (by rfl) T.m_l_in T.F_l_in.kp T.b_l_in pass0 (aa_cons (ae_var 0) (aa_cons (ae_var 9) aa_nil))) (ae_ix (ae_var 1) (ae_op oa_mod (ae_ty ka_int (by rfl) T.z_int bo_int (aa_cons (ae_var 9) aa_nil)) (ae_blt ka_len (by rfl) T.z_len bo_len (aa_cons (ae_var 1) aa_nil))))))) (fun _ _ _ _ _ => (ae_var 9)))
    (ss_cons (st_setLc 6 (own := [("_law_y", 9)]) rfl sc_l_written.nd (ai_seq (ae_var 4)) (blkOk_by (N := n_l_written) (sc := defScope s_l_written) (by decide +kernel)) (fun _ _ _ _ _ => (ag_name 9 sc_l_written.nd)) (fun _ _ _ _ _ => (ats_one (at_cmp (oa_ne hr.units) (ae_call (ok_l_in T) (hr.mono (by decide)) (by rfl) T.m_l_in T.F_l_in.kp T.b_l_in pass0 (aa_cons (ae_var 0) (aa_cons (ae_var 9) aa_nil))) (ae_ix (ae_var 2) (ae_op oa_mod (ae_ty ka_int (by rfl) T.z_int bo_int (aa_cons (ae_var 9) aa_nil)) (ae_blt ka_len (by rfl) T.z_len bo_len (aa_cons (ae_var 2) aa_nil))))))) (fun _ _ _ _ _ => (ae_var 9)))
    (ss_cons (st_if (aw_and (at_cmp (oa_eq hr.units) (ae_var 1) (ae_var 2)) (aw_and1 (at_cmp (oa_eq hr.units) (ae_blt ka_len (by rfl) T.z_len bo_len (aa_cons (ae_var 5) aa_nil)) ae_int))).t
      (ss_one (st_ret (ae_tup (aa_cons (ae_var 1) (aa_cons ae_int (aa_cons (ae_tup aa_nil) (aa_cons (ae_var 2) aa_nil)))))))
      ss_nil)
    (ss_cons (st_set 7 sc_l_written.nd (ae_ix (ae_var 5) ae_int))
    (ss_cons (st_set 8 sc_l_written.nd (ae_op oa_add (ae_ix (ae_var 6) (ae_neg (ha := ae_int))) ae_int))
    (ss_cons (st_if (at_cmp oa_le (ae_var 8) (ae_var 7))
      (ss_one (st_ret (ae_tup (aa_cons (ae_var 1) (aa_cons (ae_var 8) (aa_cons (ae_tup aa_nil) (aa_cons (ae_var 2) aa_nil)))))))
      ss_nil)
    (ss_one (st_ret (ae_tup (aa_cons (ae_var 1) (aa_cons (ae_var 7) (aa_cons (ae_ty ka_tuple (by rfl) T.z_tuple bo_tuple (aa_cons (ae_lc (own := [("_law_y", 9)]) rfl sc_l_written.nd (ai_r2 (by rfl) T.z_range (ae_var 7) (ae_var 8)) (blkOk_by (N := n_l_written) (sc := defScope s_l_written) (by decide +kernel)) (fun _ _ _ _ _ => (ag_name 9 sc_l_written.nd)) (fun _ _ _ _ _ => ats_nil) (fun _ _ _ _ _ => (ae_call (ok_l_in T) (hr.mono (by decide)) (by rfl) T.m_l_in T.F_l_in.kp T.b_l_in pass0 (aa_cons (ae_var 0) (aa_cons (ae_var 9) aa_nil))))) aa_nil)) (aa_cons (ae_var 2) aa_nil))))))))))))))))), fun rs R h => ?_⟩)
  obtain ⟨p, rfl, l0, r0, ll, rl, ml, s0, s1, q⟩ := h
  have ok : p.Ok := ⟨l0, r0, by omega, by omega, by omega, by omega, by omega⟩
  unfold patD bools at q ⊢
  walk_at "ab"
  refine ⟨p.left, rfl, l0, by omega, fun L pL eL lL => ?_⟩
  unfold bools
  walk_at "ab"
  refine ⟨p.right, rfl, r0, by omega, fun R pR eR lR => ?_⟩
  unfold bools
  walk_at "ab"
  have L1 : (0 : Int) < L.length := by have := pL.pos; omega
  have R1 : (0 : Int) < R.length := by have := pR.pos; omega
  have per0 : (0 : Int) < (L.length : Int) * R.length := Int.mul_pos L1 R1
  have per1 : (L.length : Int) * R.length ≤ p.left.length * p.right.length := Int.mul_le_mul (by omega) (by omega) (by omega) (by omega)
  have per2 : (p.left.length : Int) * p.right.length ≤ 40 * 40 := Int.mul_le_mul (by omega) (by omega) (by omega) (by omega)
  have fp : p.fin = p.start + p.mid.length := rfl
  refine ⟨cmul_r (by omega) (by omega), cmul_l (by omega) (by omega), cmul_l (by omega) (by omega), ⟨by omega, by omega, by omega, by omega, by omega⟩, ?_⟩
  obtain ⟨lo, elo⟩ : ∃ lo : Int, lo = p.start - 2 * ((L.length : Int) * R.length) - 2 := ⟨_, rfl⟩
  obtain ⟨hi, ehi⟩ : ∃ hi : Int, hi = p.start + p.mid.length + 2 * ((L.length : Int) * R.length) + 2 := ⟨_, rfl⟩
  obtain ⟨n, en⟩ : ∃ n : Nat, n = (hi - lo).toNat := ⟨_, rfl⟩
  rw [← elo, ← ehi, ← en]
  have nle : n ≤ 30000 := by omega
  have item : ∀ (T : List Bool), 0 < (T.length : Int) → ∀ (i : Nat), atI (T.map PyData.bool) ((lo + (i : Int)).fmod T.length) = some (.bool (rowAt T (lo + (i : Int)))) := fun T hT i => by
    rw [fmod_pos hT]
    exact atI_map.mpr ⟨_, atI_getD (Int.emod_nonneg _ (by omega)) (Int.emod_lt_of_pos _ hT) false, rfl⟩
  let pa : List Bool → Nat → Bool := fun T k => !(inP p (lo + (k : Int)) == rowAt T (lo + (k : Int)))
  have turn : ∀ (T : List Bool) (i : Nat), i < n → (if pa T i = true then (fl (pa T) i).length < sizeLine ∧ ((fl (pa T) i).map fun k => PyData.int (lo + (k : Nat))) ++ [PyData.int (lo + (i : Nat))] = (fl (pa T) (i + 1)).map fun k => PyData.int (lo + (k : Nat)) else ((fl (pa T) i).map fun k => PyData.int (lo + (k : Nat))) = (fl (pa T) (i + 1)).map fun k => PyData.int (lo + (k : Nat))) := fun T i hi => by
    cases e : pa T i with
    | true =>
      rw [if_pos rfl, fl_yes e, List.map_append]
      refine ⟨?_, rfl⟩
      have := fl_len (pa T) i
      exact size_ok (by omega)
    | false =>
      rw [if_neg Bool.false_ne_true, fl_no e]
  refine ⟨fun i acc => acc = (fl (pa L) i).map fun k => .int (lo + (k : Nat)), rfl, ?_, ?_⟩
  · intro i hi acc e
    subst e
    refine ⟨p, _, rfl, ok, by omega, _, item L L1 i, ?_⟩
    walk_at "ab"
    exact turn L i hi
  · intro odd eo
    subst eo
    refine ⟨fun i acc => acc = (fl (pa R) i).map fun k => .int (lo + (k : Nat)), rfl, ?_, ?_⟩
    · intro i hi acc e
      subst e
      refine ⟨p, _, rfl, ok, by omega, _, item R R1 i, ?_⟩
      walk_at "ab"
      exact turn R i hi
    · intro late el
      subst el
      -- what the two lists say
      have offL : fl (pa L) n = [] → ∀ y, inP p y = rowAt L y ∨ p.fin ≤ y := fun hz y => by
        by_cases c1 : y < p.start
        · exact .inl (by rw [Pat.low c1, eL])
        · by_cases c2 : p.fin ≤ y
          · exact .inr c2
          · have := fl_nil hz (y - lo).toNat (by omega)
            simp only [pa, show lo + (((y - lo).toNat : Nat) : Int) = y by omega] at this
            exact .inl (by simpa using this)
      have allL : fl (pa L) n = [] → L = R := fun hz => by
        refine pL.unique pR (window (rowAt_per L) (rowAt_per R) pL.pos pR.pos p.fin fun y h1 h2 => ?_)
        have := fl_nil hz (y - lo).toNat (by omega)
        simp only [pa, show lo + (((y - lo).toNat : Nat) : Int) = y by omega] at this
        have e1 : inP p y = rowAt L y := by simpa using this
        rw [← e1, Pat.high h1, eR]
      have allR : fl (pa R) n = [] → fl (pa L) n = [] ∧ L = R := fun hz => by
        have e : L = R := by
          refine pL.unique pR (window (rowAt_per L) (rowAt_per R) pL.pos pR.pos (p.start - (L.length : Int) * R.length) fun y h1 h2 => ?_)
          have := fl_nil hz (y - lo).toNat (by omega)
          simp only [pa, show lo + (((y - lo).toNat : Nat) : Int) = y by omega] at this
          have e1 : inP p y = rowAt R y := by simpa using this
          rw [← e1, Pat.low (by omega), eL]
        rw [← e] at hz
        exact ⟨hz, e⟩
      have other : ¬ (L = R ∧ fl (pa L) n = []) → ∃ d, atI ((fl (pa L) n).map fun k => PyData.int (lo + (k : Nat))) 0 = some d ∧ ∃ d1, atI ((fl (pa R) n).map fun k => PyData.int (lo + (k : Nat))) (-1) = some d1 ∧ ∃ a b : Int, d = .int a ∧ d1 = .int (b - 1) ∧ lo ≤ a ∧ a < hi ∧ lo < b ∧ b ≤ hi ∧ p.start ≤ a ∧ b ≤ p.fin ∧
          inP p a ≠ rowAt L a ∧ (∀ y, y < a → inP p y = rowAt L y) ∧ inP p (b - 1) ≠ rowAt R (b - 1) ∧ (∀ y, b ≤ y → inP p y = rowAt R y) := fun hno => by
        have n1 : fl (pa L) n ≠ [] := fun z => hno ⟨allL z, z⟩
        have n2 : fl (pa R) n ≠ [] := fun z => hno ⟨(allR z).2, (allR z).1⟩
        obtain ⟨k, g1, g2, g3, g4⟩ := fl_first n1
        obtain ⟨m, u1, u2, u3, u4⟩ := fl_last n2
        have ga : inP p (lo + (k : Int)) ≠ rowAt L (lo + (k : Int)) := by simpa [pa] using g3
        have ua : inP p (lo + (m : Int)) ≠ rowAt R (lo + (m : Int)) := by simpa [pa] using u3
        have b1 : p.start ≤ lo + (k : Int) := by
          by_cases c : p.start ≤ lo + (k : Int)
          · exact c
          · exact absurd (by rw [Pat.low (by omega), eL]) ga
        have b2 : lo + (m : Int) < p.fin := by
          by_cases c : lo + (m : Int) < p.fin
          · exact c
          · exact absurd (by rw [Pat.high (by omega), eR]) ua
        refine ⟨_, atI_map.mpr ⟨k, ?_, rfl⟩, _, atI_map.mpr ⟨m, u1, rfl⟩, lo + (k : Int), lo + (m : Int) + 1, rfl, by rw [show lo + (m : Int) + 1 - 1 = lo + (m : Int) by omega], by omega, by omega, by omega, by omega, b1, by omega, ga, fun y hy => ?_, ?_, fun y hy => ?_⟩
        · rw [atI_pos (by omega) (by have := List.length_pos_iff.mpr n1; omega)]
          exact g1
        · by_cases c1 : y < p.start
          · rw [Pat.low c1, eL]
          · have := g4 (y - lo).toNat (by omega)
            simp only [pa, show lo + (((y - lo).toNat : Nat) : Int) = y by omega] at this
            simpa using this
        · rw [show lo + (m : Int) + 1 - 1 = lo + (m : Int) by omega]
          exact ua
        · by_cases c1 : p.fin ≤ y
          · rw [Pat.high c1, eR]
          · have := u4 (y - lo).toNat (by omega) (by omega)
            simp only [pa, show lo + (((y - lo).toNat : Nat) : Int) = y by omega] at this
            simpa using this
      have lenN : ((fl (pa L) n).length : Int) = 0 ↔ fl (pa L) n = [] := by
        rw [← List.length_eq_zero_iff]
        omega
      rw [List.length_map, ite_and2]
      by_cases hc : L = R ∧ fl (pa L) n = []
      · rw [if_pos (by simp only [Bool.and_eq_true, decide_eq_true_eq]; exact ⟨hc.1, lenN.mpr hc.2⟩)]
        refine q ⟨L, 0, [], R⟩ ⟨pL, pR, .inl ⟨hc.1, fun y => ?_, rfl, rfl⟩⟩ lL lR (by simp only [List.length_nil]; omega) (by show (-110000:Int) ≤ 0; decide) (by show (0:Int) ≤ 120000; decide) (.inl rfl)
        rcases offL hc.2 y with z | z
        · exact z
        · rw [Pat.high z, ← eR, hc.1]
      · rw [if_neg (by simp only [Bool.and_eq_true, decide_eq_true_eq]; exact fun z => hc ⟨z.1, lenN.mp z.2⟩)]
        obtain ⟨d, hd, d1, hd1, a, b, rfl, rfl, g1, g2, g3, g4, g5, g6, g7, g8, g9, g10⟩ := other hc
        refine ⟨_, hd, _, hd1, ?_⟩
        walk_at "ab"
        rw [show b - 1 + 1 = b by omega]
        by_cases hab : b ≤ a
        · simp only [hab, decide_true, if_true]
          exact q ⟨L, b, [], R⟩ ⟨pL, pR, .inr ⟨a, b, g7, g8, g9, g10, .inl ⟨hab, rfl, rfl⟩⟩⟩ lL lR (by simp only [List.length_nil]; omega) (by simp only; omega) (by simp only; omega) (.inr ⟨by simp only; omega, by simp only; omega⟩)
        · simp only [hab, decide_false, Bool.false_eq_true, if_false]
          refine ⟨by omega, by omega, by omega, by omega, fun i acc => acc = (List.range i).map fun k => .bool (inP p (a + (k : Nat))), rfl, ?_, ?_⟩
          · intro i hi acc e
            subst e
            refine ⟨p, _, rfl, ok, ?_⟩
            walk_at "ab"
            refine ⟨by rw [List.length_range]; exact size_ok (by omega), ?_⟩
            rw [List.range_succ, List.map_append]
            rfl
          · intro acc e
            subst e
            have := q ⟨L, a, (List.range (b - a).toNat).map fun k => inP p (a + (k : Nat)), R⟩ ⟨pL, pR, .inr ⟨a, b, g7, g8, g9, g10, .inr ⟨by omega, rfl, rfl⟩⟩⟩ lL lR (by simp only [List.length_map, List.length_range]; omega) (by simp only; omega) (by simp only; omega) (.inr ⟨by simp only; omega, by simp only; omega⟩)
            rw [List.map_map] at this
            exact this
/-! ### _law_pattern -/
/-! #### next -/
/-- the least from n on, the greatest down from n -/
def Nx (f : Int → Bool) (n : Int) : Option Int → Prop
  | none => ∀ z, n ≤ z → f z = false
  | some y => n ≤ y ∧ f y = true ∧ ∀ z, n ≤ z → z < y → f z = false
def Pv (f : Int → Bool) (n : Int) : Option Int → Prop
  | none => ∀ z, z ≤ n → f z = false
  | some y => y ≤ n ∧ f y = true ∧ ∀ z, z ≤ n → y < z → f z = false
theorem Nx.unique {f : Int → Bool} {n : Int} : ∀ {a b : Option Int}, Nx f n a → Nx f n b → a = b
  | none, none, _, _ => rfl
  | none, some y, h, k => by
    have := h y k.1
    rw [k.2.1] at this
    cases this
  | some y, none, k, h => by
    have := h y k.1
    rw [k.2.1] at this
    cases this
  | some x, some y, h, k => by
    rcases Int.lt_trichotomy x y with z | z | z
    · have := k.2.2 x h.1 z
      rw [h.2.1] at this
      cases this
    · rw [z]
    · have := h.2.2 y k.1 z
      rw [k.2.1] at this
      cases this
theorem Pv.unique {f : Int → Bool} {n : Int} : ∀ {a b : Option Int}, Pv f n a → Pv f n b → a = b
  | none, none, _, _ => rfl
  | none, some y, h, k => by
    have := h y k.1
    rw [k.2.1] at this
    cases this
  | some y, none, k, h => by
    have := h y k.1
    rw [k.2.1] at this
    cases this
  | some x, some y, h, k => by
    rcases Int.lt_trichotomy x y with z | z | z
    · have := h.2.2 y k.1 z
      rw [k.2.1] at this
      cases this
    · rw [z]
    · have := k.2.2 x h.1 z
      rw [h.2.1] at this
      cases this
theorem per_false {f : Int → Bool} {L : Nat} (h : Per f L) (L0 : 0 < L) (a : Int) (w : ∀ z, a ≤ z → z < a + (L : Nat) → f z = false) (z : Int) : f z = false := by
  have := h.int (-((z - a) / (L : Int))) z
  rw [← this]
  have r0 : 0 ≤ (z - a) % (L : Int) := Int.emod_nonneg _ (by omega)
  have r1 : (z - a) % (L : Int) < (L : Int) := Int.emod_lt_of_pos _ (by omega)
  have e : (z - a) % (L : Int) + L * ((z - a) / L) = z - a := emod_div
  rw [Int.neg_mul, Int.mul_comm ((z - a) / (L : Int))]
  exact w _ (by omega) (by omega)
theorem left_false {p : Pat} (l0 : p.left ≠ []) (a : Int) (ha : a + (p.left.length : Nat) ≤ p.start) (w : ∀ z, a ≤ z → z < a + (p.left.length : Nat) → inP p z = false) (z : Int) (hz : z < p.start) : inP p z = false := by
  have L0 := List.length_pos_iff.mpr l0
  unfold inP
  rw [if_pos hz]
  refine per_false (rowAt_per p.left) L0 a (fun y h1 h2 => ?_) z
  have := w y h1 h2
  unfold inP at this
  rwa [if_pos (by omega)] at this
theorem right_false {p : Pat} (r0 : p.right ≠ []) (a : Int) (ha : p.fin ≤ a) (w : ∀ z, a ≤ z → z < a + (p.right.length : Nat) → inP p z = false) (z : Int) (hz : p.fin ≤ z) : inP p z = false := by
  have R0 := List.length_pos_iff.mpr r0
  have hf : p.start ≤ p.fin := by unfold Pat.fin; omega
  unfold inP
  rw [if_neg (by omega), if_neg (by omega)]
  refine per_false (rowAt_per p.right) R0 a (fun y h1 h2 => ?_) z
  have := w y h1 h2
  unfold inP at this
  rwa [if_neg (by omega), if_neg (by omega)] at this
/-! #### small -/
/-- a pattern as the draws make it -/
structure Sm (p : Pat) : Prop where
  l0 : p.left ≠ []
  r0 : p.right ≠ []
  ll : p.left.length ≤ 6
  rl : p.right.length ≤ 6
  s0 : -10 ≤ p.start
  f1 : p.start + p.mid.length ≤ 16
def SmF (f : Int → Bool) : Prop := ∃ p : Pat, Sm p ∧ ∀ y, f y = inP p y
theorem SmF.right {f : Int → Bool} (h : SmF f) (a : Int) (ha : 16 ≤ a) (w : ∀ z, a ≤ z → z < a + 6 → f z = false) (z : Int) (hz : 16 ≤ z) : f z = false := by
  obtain ⟨p, s, e⟩ := h
  have := s.f1
  have := s.rl
  rw [e]
  exact right_false s.r0 a (by unfold Pat.fin; omega) (fun y h1 h2 => by rw [← e]; exact w y h1 (by omega)) z (by unfold Pat.fin; omega)
theorem SmF.left {f : Int → Bool} (h : SmF f) (a : Int) (ha : a + 6 ≤ -10) (w : ∀ z, a ≤ z → z < a + 6 → f z = false) (z : Int) (hz : z < -10) : f z = false := by
  obtain ⟨p, s, e⟩ := h
  have := s.s0
  have := s.ll
  rw [e]
  exact left_false s.l0 a (by omega) (fun y h1 h2 => by rw [← e]; exact w y h1 (by omega)) z (by omega)
def a_l_pattern : Addr → Asp := fun st rs P => rs = [.obj (isRef st)] ∧ ∀ q : Pat, q.Ok → (∃ p : Pat, Sm p ∧ Wr (inP p) q) → q.left.length ≤ 6 → q.right.length ≤ 6 → (q.mid.length : Int) ≤ 154 → -200 ≤ q.start → q.start ≤ 200 → P (.dat (patD q))
set_option maxHeartbeats 8000000 in
theorem ok_l_pattern (T : Txt K mg) : FnOk P w K mg base CX0 3 T.a_l_pattern T.fd_l_pattern ["_law_state"] (dSp K (T.Tb.map (·.1)) (drW K T.Tb) a_l_pattern) := by
  refine def_draw (N := n_l_pattern) (k := 2) T.F_l_pattern sc_l_pattern (by intro st rs R h; unfold a_l_pattern at h; repeat (first | (obtain ⟨rfl, _⟩ := h; rfl) | (obtain ⟨_, h⟩ := h))) drOk (fun cdv A outer s H E st J hW hJ hr => ⟨_, (ss_one (st_ret (ae_call (ok_l_written T) (hr.mono (by decide)) (by rfl) T.m_l_written T.F_l_written.kp T.b_l_written pass0 (aa_cons (ae_tup (aa_cons (ae_callD rfl hW (ok_l_row T) (hr.mono (by decide)) (by rfl) T.m_l_row T.F_l_row.kp T.b_l_row pass0 (aa_cons (ae_var 0) (aa_cons ae_int (aa_cons ae_int aa_nil)))) (aa_cons (ae_op oa_sub (ae_callD rfl hW (ok_l_draw T) (hr.mono (by decide)) (by rfl) T.m_l_draw T.F_l_draw.kp T.b_l_draw pass0 (aa_cons (ae_var 0) (aa_cons ae_int aa_nil))) ae_int) (aa_cons (ae_callD rfl hW (ok_l_row T) (hr.mono (by decide)) (by rfl) T.m_l_row T.F_l_row.kp T.b_l_row pass0 (aa_cons (ae_var 0) (aa_cons ae_int (aa_cons ae_int aa_nil)))) (aa_cons (ae_callD rfl hW (ok_l_row T) (hr.mono (by decide)) (by rfl) T.m_l_row T.F_l_row.kp T.b_l_row pass0 (aa_cons (ae_var 0) (aa_cons ae_int (aa_cons ae_int aa_nil)))) aa_nil))))) aa_nil)))), fun rs R h => ?_⟩)
  obtain ⟨rfl, q⟩ := h
  walk_at "ab"
  refine ⟨1, 6, rfl, by omega, by omega, by omega, fun b1 x1 y1 => ?_⟩
  refine ⟨21, rfl, by omega, by omega, fun d d0 d1 => ?_⟩
  walk_at "ab"
  refine ⟨0, 6, rfl, by omega, by omega, by omega, fun b2 x2 y2 => ?_⟩
  refine ⟨1, 6, rfl, by omega, by omega, by omega, fun b3 x3 y3 => ?_⟩
  walk_at "ab"
  have n1 : b1 ≠ [] := fun z => by rw [z] at x1; simp at x1
  have n3 : b3 ≠ [] := fun z => by rw [z] at x3; simp at x3
  refine ⟨⟨b1, d - 10, b2, b3⟩, rfl, n1, n3, by show b1.length ≤ 40; omega, by show b3.length ≤ 40; omega, by show b2.length ≤ 10000; omega, by show -100000 ≤ d - 10; omega, by show d - 10 ≤ 100000; omega, fun p w g1 g2 g3 g4 g5 g6 => ?_⟩
  simp only at g1 g2 g3 g6
  have h2 : (b1.length : Int) * b3.length ≤ 6 * 6 := Int.mul_le_mul (by omega) (by omega) (by omega) (by omega)
  exact ⟨rfl, q p ⟨w.pl.ne, w.pr.ne, by omega, by omega, by omega, by omega, by omega⟩ ⟨_, ⟨n1, n3, by show b1.length ≤ 6; omega, by show b3.length ≤ 6; omega, by show -10 ≤ d - 10; omega, by show d - 10 + (b2.length : Int) ≤ 16; omega⟩, w⟩ (by omega) (by omega) (by omega) (by omega) (by omega)⟩
/-! ### _law_test -/
def tst (k : Int) (a b : Bool) : Bool := if k = 0 then a || b else a && b
def a_l_test : Asp := fun rs P => ∃ (p p2 : Pat) (k n : Int), rs = [.dat (patD p), .dat (patD p2), .dat (.int k), .dat (.int n)] ∧ p.Ok ∧ p2.Ok ∧ P (.dat (.bool (tst k (inP p n) (inP p2 n))))
set_option maxHeartbeats 8000000 in
theorem ok_l_test (T : Txt K mg) : FnOk P w K mg base CX0 2 T.a_l_test T.fd_l_test ["_law_first", "_law_second", "_law_kind", "_law_y"] (pSp K a_l_test) := by
  refine def_pure (N := n_l_test) (k := 1) T.F_l_test sc_l_test (by intro rs R h; unfold a_l_test at h; repeat (first | (obtain ⟨rfl, _⟩ := h; rfl) | (obtain ⟨_, h⟩ := h))) (fun cdv A outer s H E hr => ⟨_, (ss_cons (st_if (at_cmp (oa_eq hr.units) (ae_var 2) ae_int)
      (ss_one (st_ret (ae_or (ae_call (ok_l_in T) (hr.mono (by decide)) (by rfl) T.m_l_in T.F_l_in.kp T.b_l_in pass0 (aa_cons (ae_var 0) (aa_cons (ae_var 3) aa_nil))) (ae_one (ae_call (ok_l_in T) (hr.mono (by decide)) (by rfl) T.m_l_in T.F_l_in.kp T.b_l_in pass0 (aa_cons (ae_var 1) (aa_cons (ae_var 3) aa_nil)))))))
      ss_nil)
    (ss_one (st_ret (ae_and (ae_call (ok_l_in T) (hr.mono (by decide)) (by rfl) T.m_l_in T.F_l_in.kp T.b_l_in pass0 (aa_cons (ae_var 0) (aa_cons (ae_var 3) aa_nil))) (ae_one (ae_call (ok_l_in T) (hr.mono (by decide)) (by rfl) T.m_l_in T.F_l_in.kp T.b_l_in pass0 (aa_cons (ae_var 1) (aa_cons (ae_var 3) aa_nil)))))))), fun rs R h => ?_⟩)
  obtain ⟨p, p2, k, n, rfl, ok, ok2, q⟩ := h
  unfold tst at q
  walk_at "ab"
  by_cases hk : k = 0
  · rw [if_pos hk] at q
    simp only [hk, decide_true, if_true]
    refine ⟨p, _, rfl, ok, ?_⟩
    cases e1 : inP p n with
    | true => rw [e1] at q; walk_at "ab"; exact q
    | false => rw [e1] at q; walk_at "ab"; exact ⟨p2, _, rfl, ok2, rfl, by simpa using q⟩
  · rw [if_neg hk] at q
    simp only [hk, decide_false, Bool.false_eq_true, if_false]
    refine ⟨p, _, rfl, ok, ?_⟩
    cases e1 : inP p n with
    | true => rw [e1] at q; walk_at "ab"; exact ⟨p2, _, rfl, ok2, rfl, by simpa using q⟩
    | false => rw [e1] at q; walk_at "ab"; exact q
/-! ### _law_of -/
/-! #### pateq -/
theorem sh_pat (p : Pat) : SeqAt.shaped (patD p) = true := by
  have f : ∀ bs : List Bool, PyData.canLay0 (bools bs) = true ∧ PyData.depth (bools bs) ≤ 1 := fun bs => by
    obtain ⟨h1, h2⟩ := flat_map (f := PyData.bool) (fun _ => rfl) (fun _ => rfl) bs
    unfold bools
    rw [PyData.canLay0, PyData.depth, h2]
    exact ⟨h1, by omega⟩
  obtain ⟨a1, a2⟩ := f p.left
  obtain ⟨b1, b2⟩ := f p.mid
  obtain ⟨c1, c2⟩ := f p.right
  have e : PyData.depth (.int p.start) = 0 := rfl
  have e1 : PyData.canLay0 (.int p.start) = true := rfl
  refine sh_tup ?_ ?_
  · rw [PyData.canLayAll0, PyData.canLayAll0, PyData.canLayAll0, PyData.canLayAll0, PyData.canLayAll0, a1, b1, c1, e1]
    rfl
  · rw [PyData.depthAll, PyData.depthAll, PyData.depthAll, PyData.depthAll, PyData.depthAll, e]
    omega
theorem eqv_pat (p : Pat) : PyData.eqv (patD p) (patD p) = true := by
  unfold patD bools
  rw [PyData.eqv, PyData.eqvAll, PyData.eqvAll, PyData.eqvAll, PyData.eqvAll, PyData.eqvAll, eqv_bools, eqv_bools, eqv_bools, eqv_ii]
  simp
theorem eq_pat {p : Pat} {P : RV → Prop} : oEq (.dat (patD p)) (.dat (patD p)) P = P (.dat (.bool true)) := by
  unfold oEq
  simp [RV.dt?, sh_pat, eqv_pat]
theorem ne_pat {p : Pat} {P : RV → Prop} : oNe (.dat (patD p)) (.dat (patD p)) P = P (.dat (.bool false)) := by
  unfold oNe
  simp [RV.dt?, sh_pat, eqv_pat]
theorem Wr.to {f g : Int → Bool} {q : Pat} (h : Wr f q) (e : ∀ y, f y = g y) : Wr g q := by
  rw [← funext e]
  exact h
/-- a row written place by place, by the numbers s, s + 1, .. -/
def fillR (f : Int → Bool) (s : Int) (n : Nat) : Nat → List Bool
  | 0 => List.replicate n false
  | i + 1 => (fillR f s n i).set ((s + (i : Nat)) % (n : Int)).toNat (f (s + (i : Nat)))
theorem fillR_len {f : Int → Bool} {s : Int} {n : Nat} : ∀ i, (fillR f s n i).length = n
  | 0 => by simp [fillR]
  | i + 1 => by rw [fillR, List.length_set, fillR_len i]
theorem fillR_at {f : Int → Bool} {s : Int} {n : Nat} (n0 : 0 < n) : ∀ i, i ≤ n → ∀ j, j < i → (fillR f s n i)[((s + (j : Nat)) % (n : Int)).toNat]? = some (f (s + (j : Nat)))
  | 0, _, j, h => by omega
  | i + 1, hi, j, hj => by
    have r0 : ∀ z : Int, 0 ≤ z % (n : Int) := fun z => Int.emod_nonneg _ (by omega)
    have r1 : ∀ z : Int, z % (n : Int) < n := fun z => Int.emod_lt_of_pos _ (by omega)
    rw [fillR]
    by_cases e : j = i
    · subst e
      rw [List.getElem?_set_self (by rw [fillR_len]; have := r0 (s + (j : Nat)); have := r1 (s + (j : Nat)); omega)]
    · have ne : ((s + (j : Nat)) % (n : Int)) ≠ (s + (i : Nat)) % (n : Int) := mod_ne (by omega) (by omega)
      rw [List.getElem?_set_ne (by have := r0 (s + (j : Nat)); have := r0 (s + (i : Nat)); omega)]
      exact fillR_at n0 i (by omega) j (by omega)
theorem fillR_row {f g : Int → Bool} {s : Int} {n : Nat} (n0 : 0 < n) (hg : Per g n) (h : ∀ y, s ≤ y → y < s + (n : Int) → f y = g y) (y : Int) : rowAt (fillR f s n n) y = g y := by
  have hl : (fillR f s n n).length = n := fillR_len n
  have hp := rowAt_per (fillR f s n n)
  rw [hl] at hp
  refine per_window hp hg n0 s (fun y h1 h2 => ?_) y
  rw [← h y h1 h2]
  have := fillR_at (f := f) (s := s) n0 n (Nat.le_refl _) (y - s).toNat (by omega)
  rw [show s + (((y - s).toNat : Nat) : Int) = y by omega] at this
  unfold rowAt
  rw [hl, List.getD, this]
  rfl
def a_l_of : Asp := fun rs P => ∃ (p p2 : Pat) (k : Int), rs = [.dat (patD p), .dat (patD p2), .dat (.int k)] ∧ p.Ok ∧ p2.Ok ∧ p.left.length * p2.left.length ≤ 40 ∧ p.right.length * p2.right.length ≤ 40 ∧ -2000 ≤ p.start ∧ -2000 ≤ p2.start ∧ p.fin ≤ 2000 ∧ p2.fin ≤ 2000 ∧
  ∀ q : Pat, Wr (fun y => tst k (inP p y) (inP p2 y)) q → P (.dat (patD q))
set_option maxHeartbeats 8000000 in
theorem ok_l_of (T : Txt K mg) : FnOk P w K mg base CX0 3 T.a_l_of T.fd_l_of ["_law_first", "_law_second", "_law_kind"] (pSp K a_l_of) := by
  refine def_pure (N := n_l_of) (k := 2) T.F_l_of sc_l_of (by intro rs R h; unfold a_l_of at h; repeat (first | (obtain ⟨rfl, _⟩ := h; rfl) | (obtain ⟨_, h⟩ := h))) (fun cdv A outer s H E hr => ⟨_, (ss_cons (st_set 3 sc_l_of.nd (ae_blt (ka_min rfl) (by rfl) T.z_min bo_min (aa_cons (ae_ix (ae_var 0) ae_int) (aa_cons (ae_ix (ae_var 1) ae_int) aa_nil))))
    (ss_cons (st_set 4 sc_l_of.nd (ae_blt (ka_max rfl) (by rfl) T.z_max bo_max (aa_cons (ae_op oa_add (ae_ix (ae_var 0) ae_int) (ae_blt ka_len (by rfl) T.z_len bo_len (aa_cons (ae_ix (ae_var 0) ae_int) aa_nil))) (aa_cons (ae_op oa_add (ae_ix (ae_var 1) ae_int) (ae_blt ka_len (by rfl) T.z_len bo_len (aa_cons (ae_ix (ae_var 1) ae_int) aa_nil))) aa_nil))))
    (ss_cons (st_set 5 sc_l_of.nd (ae_op oa_mul (ae_blt ka_len (by rfl) T.z_len bo_len (aa_cons (ae_ix (ae_var 0) ae_int) aa_nil)) (ae_blt ka_len (by rfl) T.z_len bo_len (aa_cons (ae_ix (ae_var 1) ae_int) aa_nil))))
    (ss_cons (st_set 6 sc_l_of.nd (ae_op oa_mul (ae_lst (aa_cons ae_bl aa_nil)) (ae_var 5)))
    (ss_cons (st_for PassesOwn.never rfl (ai_r2 (by rfl) T.z_range (ae_op oa_sub (ae_var 3) (ae_var 5)) (ae_var 3)) (ag_name 7 sc_l_of.nd)
      (ss_one (st_put 6 (pv 6) (ae_op oa_mod (ae_ty ka_int (by rfl) T.z_int bo_int (aa_cons (ae_var 7) aa_nil)) (ae_var 5)) (ae_call (ok_l_test T) (hr.mono (by decide)) (by rfl) T.m_l_test T.F_l_test.kp T.b_l_test pass0 (aa_cons (ae_var 0) (aa_cons (ae_var 1) (aa_cons (ae_var 2) (aa_cons (ae_var 7) aa_nil))))))))
    (ss_cons (st_set 8 sc_l_of.nd (ae_op oa_mul (ae_blt ka_len (by rfl) T.z_len bo_len (aa_cons (ae_ix (ae_var 0) ae_int) aa_nil)) (ae_blt ka_len (by rfl) T.z_len bo_len (aa_cons (ae_ix (ae_var 1) ae_int) aa_nil))))
    (ss_cons (st_set 9 sc_l_of.nd (ae_op oa_mul (ae_lst (aa_cons ae_bl aa_nil)) (ae_var 8)))
    (ss_cons (st_for PassesOwn.never rfl (ai_r2 (by rfl) T.z_range (ae_var 4) (ae_op oa_add (ae_var 4) (ae_var 8))) (ag_name 7 sc_l_of.nd)
      (ss_one (st_put 9 (pv 9) (ae_op oa_mod (ae_ty ka_int (by rfl) T.z_int bo_int (aa_cons (ae_var 7) aa_nil)) (ae_var 8)) (ae_call (ok_l_test T) (hr.mono (by decide)) (by rfl) T.m_l_test T.F_l_test.kp T.b_l_test pass0 (aa_cons (ae_var 0) (aa_cons (ae_var 1) (aa_cons (ae_var 2) (aa_cons (ae_var 7) aa_nil))))))))
    (ss_cons (st_set 10 sc_l_of.nd (ae_ty ka_tuple (by rfl) T.z_tuple bo_tuple (aa_cons (ae_lc (own := [("_law_y", 7)]) rfl sc_l_of.nd (ai_r2 (by rfl) T.z_range (ae_var 3) (ae_var 4)) (blkOk_by (N := n_l_of) (sc := defScope s_l_of) (by decide +kernel)) (fun _ _ _ _ _ => (ag_name 7 sc_l_of.nd)) (fun _ _ _ _ _ => ats_nil) (fun _ _ _ _ _ => (ae_call (ok_l_test T) (hr.mono (by decide)) (by rfl) T.m_l_test T.F_l_test.kp T.b_l_test pass0 (aa_cons (ae_var 0) (aa_cons (ae_var 1) (aa_cons (ae_var 2) (aa_cons (ae_var 7) aa_nil))))))) aa_nil)))
    (ss_one (st_ret (ae_call (ok_l_written T) (hr.mono (by decide)) (by rfl) T.m_l_written T.F_l_written.kp T.b_l_written pass0 (aa_cons (ae_tup (aa_cons (ae_ty ka_tuple (by rfl) T.z_tuple bo_tuple (aa_cons (ae_var 6) aa_nil)) (aa_cons (ae_var 3) (aa_cons (ae_var 10) (aa_cons (ae_ty ka_tuple (by rfl) T.z_tuple bo_tuple (aa_cons (ae_var 9) aa_nil)) aa_nil))))) aa_nil))))))))))))), fun rs R h => ?_⟩)
  obtain ⟨p, p2, k, rfl, ok, ok2, hl, hr', s0, t0, s1, t1, q⟩ := h
  have hfin : p.fin = p.start + p.mid.length := rfl
  have hfin2 : p2.fin = p2.start + p2.mid.length := rfl
  have := ok.ll
  have := ok2.ll
  have := ok.rl
  have := ok2.rl
  have n1 := List.length_pos_iff.mpr ok.l0
  have n2 := List.length_pos_iff.mpr ok.r0
  have n3 := List.length_pos_iff.mpr ok2.l0
  have n4 := List.length_pos_iff.mpr ok2.r0
  have pl0 : 0 < p.left.length * p2.left.length := Nat.mul_pos n1 n3
  have pr0 : 0 < p.right.length * p2.right.length := Nat.mul_pos n2 n4
  have e1 : patD p = .tuple [bools p.left, .int p.start, bools p.mid, bools p.right] := rfl
  have e2 : patD p2 = .tuple [bools p2.left, .int p2.start, bools p2.mid, bools p2.right] := rfl
  rw [e1, e2]
  unfold bools
  walk_at "ab"
  obtain ⟨pl, epl⟩ : ∃ pl, pl = p.left.length * p2.left.length := ⟨_, rfl⟩
  obtain ⟨pr, epr⟩ : ∃ pr, pr = p.right.length * p2.right.length := ⟨_, rfl⟩
  rw [← epl] at hl pl0
  rw [← epr] at hr' pr0
  obtain ⟨st, est⟩ : ∃ st, st = min p.start p2.start := ⟨_, rfl⟩
  obtain ⟨en, een⟩ : ∃ en, en = max (p.start + (p.mid.length : Int)) (p2.start + (p2.mid.length : Int)) := ⟨_, rfl⟩
  have c1 : (p.left.length : Int) * p2.left.length = (pl : Int) := by rw [epl, Int.natCast_mul]
  have c2 : (p.right.length : Int) * p2.right.length = (pr : Int) := by rw [epr, Int.natCast_mul]
  rw [← est, ← een, c1]
  let f : Int → Bool := fun y => tst k (inP p y) (inP p2 y)
  have reps0 : ∀ m : Nat, reps (m : Int) [PyData.bool false] = (List.replicate m false).map PyData.bool := fun m => by
    unfold reps
    rw [Int.toNat_natCast]
    simp
  have ixq : ∀ z : Int, ixN pl (z.fmod pl) = some (z % (pl : Int)).toNat := fun z => by
    rw [fmod_pos (by omega)]
    have := Int.emod_nonneg z (show (pl : Int) ≠ 0 by omega)
    have := Int.emod_lt_of_pos z (show (0 : Int) < pl by omega)
    unfold ixN
    rw [if_pos (by omega), if_pos (by omega)]
  have ixq2 : ∀ z : Int, ixN pr (z.fmod pr) = some (z % (pr : Int)).toNat := fun z => by
    rw [fmod_pos (by omega)]
    have := Int.emod_nonneg z (show (pr : Int) ≠ 0 by omega)
    have := Int.emod_lt_of_pos z (show (0 : Int) < pr by omega)
    unfold ixN
    rw [if_pos (by omega), if_pos (by omega)]
  refine ⟨cmul_r (by omega) (by omega), by omega, by omega, by rw [sizeLine_eq]; omega, by omega, by omega, by omega, by omega, fun i Γ => ∃ g7, Γ = [some (.dat (patD p)), some (.dat (patD p2)), some (.dat (.int k)), some (.dat (.int st)), some (.dat (.int en)), some (.dat (.int pl)), some (.own ((fillR f (st - pl) pl i).map .bool)), g7, none, none, none], ⟨none, by rw [reps0]; rfl⟩, ?_, ?_⟩
  · rintro i hi Γ ⟨g7, rfl⟩
    refine ⟨_, rfl, ?_⟩
    walk_at "ab"
    refine ⟨p, p2, k, _, rfl, ok, ok2, _, rfl, _, rfl, by omega, ((st - pl + (i : Nat)) % (pl : Int)).toNat, ?_, some (.dat (.int (st - pl + (i : Nat)))), ?_⟩
    · rw [List.length_map, fillR_len]
      exact ixq _
    · rw [fillR, List.map_set]
  · rintro Γ ⟨g7, rfl⟩
    rw [e1, e2]
    unfold bools
    walk_at "ab"
    rw [c2, show (st - (st - (pl : Int))).toNat = pl by omega]
    refine ⟨cmul_r (by omega) (by omega), by omega, by omega, by rw [sizeLine_eq]; omega, by omega, by omega, by omega, by omega, fun i Γ => ∃ g7, Γ = [some (.dat (patD p)), some (.dat (patD p2)), some (.dat (.int k)), some (.dat (.int st)), some (.dat (.int en)), some (.dat (.int pl)), some (.own ((fillR f (st - pl) pl pl).map .bool)), g7, some (.dat (.int pr)), some (.own ((fillR f en pr i).map .bool)), none], ⟨_, by rw [reps0]; rfl⟩, ?_, ?_⟩
    · rintro i hi Γ ⟨g7, rfl⟩
      refine ⟨_, rfl, ?_⟩
      walk_at "ab"
      refine ⟨p, p2, k, _, rfl, ok, ok2, _, rfl, _, rfl, by omega, ((en + (i : Nat)) % (pr : Int)).toNat, ?_, some (.dat (.int (en + (i : Nat)))), ?_⟩
      · rw [List.length_map, fillR_len]
        exact ixq2 _
      · rw [fillR, List.map_set]
    · rintro Γ ⟨g7, rfl⟩
      rw [show (en + (pr : Int) - en).toNat = pr by omega]
      walk_at "ab"
      refine ⟨by omega, by omega, by omega, by omega, fun i acc => acc = (List.range i).map fun j : Nat => .bool (f (st + (j : Nat))), rfl, ?_, ?_⟩
      · intro i hi acc e
        subst e
        refine ⟨p, p2, k, _, rfl, ok, ok2, ?_⟩
        walk_at "ab"
        refine ⟨size_ok (by rw [List.length_range]; omega), ?_⟩
        rw [List.range_succ, List.map_append]
        rfl
      · intro acc e
        subst e
        have L : ∀ y, rowAt (fillR f (st - pl) pl pl) y = tst k (rowAt p.left y) (rowAt p2.left y) := fun y => fillR_row (g := fun y => tst k (rowAt p.left y) (rowAt p2.left y)) pl0 (fun y => by show tst _ _ _ = tst _ _ _; rw [row_per ⟨p2.left.length, epl⟩ y, row_per ⟨p.left.length, by rw [epl, Nat.mul_comm]⟩ y]) (fun y h1 h2 => by show tst _ _ _ = tst _ _ _; rw [inP_low (lo := st) (by omega) (by omega), inP_low (lo := st) (by omega) (by omega)]) y
        have R' : ∀ y, rowAt (fillR f en pr pr) y = tst k (rowAt p.right y) (rowAt p2.right y) := fun y => fillR_row (g := fun y => tst k (rowAt p.right y) (rowAt p2.right y)) pr0 (fun y => by show tst _ _ _ = tst _ _ _; rw [row_per ⟨p2.right.length, epr⟩ y, row_per ⟨p.right.length, by rw [epr, Nat.mul_comm]⟩ y]) (fun y h1 h2 => by show tst _ _ _ = tst _ _ _; rw [inP_high (hi := en) (by omega) (by omega), inP_high (hi := en) (by omega) (by omega)]) y
        have l1 : (fillR f (st - pl) pl pl).length = pl := fillR_len pl
        have l2 : (fillR f en pr pr).length = pr := fillR_len pr
        have l3 : ((List.range (en - st).toNat).map fun j : Nat => f (st + (j : Nat))).length = (en - st).toNat := by simp
        obtain ⟨Z, eZ⟩ : ∃ Z : Pat, Z = ⟨fillR f (st - pl) pl pl, st, (List.range (en - st).toNat).map fun j : Nat => f (st + (j : Nat)), fillR f en pr pr⟩ := ⟨_, rfl⟩
        have zl : Z.left.length = pl := by rw [eZ]; exact l1
        have zr : Z.right.length = pr := by rw [eZ]; exact l2
        have zm : Z.mid.length = (en - st).toNat := by rw [eZ]; exact l3
        have zs : Z.start = st := by rw [eZ]
        refine ⟨Z, by rw [eZ, show patD (⟨fillR f (st - pl) pl pl, st, (List.range (en - st).toNat).map fun j : Nat => f (st + (j : Nat)), fillR f en pr pr⟩ : Pat) = .tuple [bools (fillR f (st - pl) pl pl), .int st, bools ((List.range (en - st).toNat).map fun j : Nat => f (st + (j : Nat))), bools (fillR f en pr pr)] from rfl]; unfold bools; rw [List.map_map]; rfl, fun z => by rw [z] at zl; simp at zl; omega, fun z => by rw [z] at zr; simp at zr; omega, by omega, by omega, by omega, by omega, by omega, fun qq w _ _ _ _ _ _ => ⟨rfl, q qq (w.to fun y => ?_)⟩⟩
        by_cases y1 : y < st
        · rw [inP_low (p := Z) (lo := st) (by omega) y1, inP_low (p := p) (lo := st) (by omega) y1, inP_low (p := p2) (lo := st) (by omega) y1, eZ]
          exact L y
        · by_cases y2 : en ≤ y
          · rw [inP_high (p := Z) (hi := en) (by unfold Pat.fin; omega) y2, inP_high (p := p) (hi := en) (by omega) y2, inP_high (p := p2) (hi := en) (by omega) y2, eZ]
            exact R' y
          · have : inP Z y = Z.mid.getD (y - Z.start).toNat false := by unfold inP; rw [if_neg (by omega), if_pos (by unfold Pat.fin; omega)]
            rw [this, zs, eZ]
            show List.getD ((List.range (en - st).toNat).map fun j : Nat => f (st + (j : Nat))) _ _ = _
            rw [List.getD, List.getElem?_map, List.getElem?_range (by omega)]
            show f (st + (((y - st).toNat : Nat) : Int)) = f y
            congr 1
            omega
/-! ### law -/
/-! #### start -/
/-! a law's own def: its first row makes the list that draws are made from -/
theorem pss_ex {X : Cx} {b : List Stmt} {ι : Type} {t : ι → TS} (h : ∀ i, PSs X b (t i)) : PSs X b (fun E σ H => ∃ i, t i E σ H) := ⟨fun pins s σ H D I ⟨i, hu⟩ => (h i).run pins s σ H D I hu⟩
/-- where the state and the script's list stand, what the script says, the heap then -/
structure LI where
  st : Addr
  scr : Addr
  ns : List Int
  H : Hp
abbrev LI.c (i : LI) (K : PySem.W.Frag) (Tb : List (Addr × Str)) : Ab.Ctx := cx0 K (i.st :: Tb.map (·.1)) (Dr K Tb i.st i.scr i.ns) i.H
theorem ss_from {X : Cx} {K : PySem.W.Frag} {Tb : List (Addr × Str)} {b : List Stmt} {B : LI → XS} (h : ∀ i : LI, drW K Tb i.st (Dr K Tb i.st i.scr i.ns) → PSts X (i.c K Tb) b (B i)) : PSs X b (fun E σ H => ∃ i : LI, gSt (i.c K Tb) (B i) E σ H) := pss_ex fun i => (h i ⟨_, _, rfl⟩).ps
def sayLaw (K : PySem.W.Frag) (Tb : List (Addr × Str)) : Sp := fun vs H Q _ => ∃ (a : Addr) (ns : List Int), vs = [.ref a] ∧ SqL K H a (ns.map V.int) ∧ ns.length ≤ 63 ∧ LamX.Tabs Tb H ∧ ∀ H', Q (.bl true) H'
def yes : AD := fin fun r => r = .dat (.bool true)
theorem yes_rt {r : RV} : yes.rt r ↔ r = .dat (.bool true) := ⟨fun h => h.2, fun h => ⟨by rw [h]; rfl, h⟩⟩
theorem law_begin {K : PySem.W.Frag} {Tb : List (Addr × Str)} {i : LI} {n : Nat} {B : XS} {Q : VK} {v0 : V} (hscr : i.H i.scr = some (.lst (i.ns.map V.int))) (hst : i.H i.st = some (.lst [.int 0, .int 0, .ref i.scr, .int 1])) (hne : i.scr ≠ i.st) (ht : LamX.Tabs Tb i.H) (hQ : ∀ H', Q (.bl true) H')
    (h : B yes (none :: some (.obj (isRef i.st)) :: List.replicate n none)) : gSt (i.c K Tb) B { nx := fun _ H' => Q .non H', rt := Q } (some v0 :: some (.ref i.st) :: List.replicate n none) i.H := by
  have j : Dr K Tb i.st i.scr i.ns i.H := ⟨⟨hne, .inl (.inl hscr), 0, 0, 1, Int.le_refl _, hst⟩, ht⟩
  have ok : (i.c K Tb).Ok := drOk i.st _ i.H ⟨_, _, rfl⟩ j
  have a0 : At (i.c K Tb) (some v0 :: some (.ref i.st) :: List.replicate n none) i.H (none :: some (.obj (isRef i.st)) :: List.replicate n none) := by
    refine ⟨ok, by simp, fun k g e => ?_, fun k l v ds es e => ?_, Fx.refl _, j⟩
    · match k, e with
      | 0, e => simp at e
      | 1, e => simp at e; subst e; exact ⟨_, rfl, rfl⟩
      | k + 2, e =>
        simp only [List.getElem?_cons_succ, List.getElem?_replicate] at e
        split at e <;> simp at e
    · match k, e with
      | 0, e => simp at e
      | 1, e => simp at e
      | k + 2, e =>
        simp only [List.getElem?_cons_succ, List.getElem?_replicate] at e
        split at e <;> simp at e
  refine ⟨_, [], [], _, by simp, by rw [List.append_nil, List.append_nil]; exact a0, h, ⟨fun Γ σ H' p hl a => ?_, fun Γ σ H' p => p.elim, fun Γ σ H' p => p.elim, fun v H' r fx jj rr p => ?_⟩⟩
  · cases p
  · have e := yes_rt.mp p
    subst e
    cases rr.ro.bl
    exact hQ H'
theorem tabs_new {Tb : List (Addr × Str)} {H : Hp} {p : Addr} {o : HO} (t : LamX.Tabs Tb H) (h : H p = none) : LamX.Tabs Tb (upd H p o) := tabs_keep t fun b u _ e => by
  rw [upd_ne (ne_of_none e h)]
  exact e
/-! #### lcm2 -/
theorem lcm_two (p : Pat) : lcms 1 (lensOf [p]) = Nat.lcm p.left.length p.right.length := by
  show Nat.lcm (Nat.lcm 1 p.left.length) p.right.length = _
  have e : Nat.lcm 1 p.left.length = p.left.length := by simp [Nat.lcm]
  rw [e]
theorem lcm_two_le {p : Pat} {m n : Nat} (h1 : p.left.length ≤ m) (h2 : p.right.length ≤ n) (l0 : p.left ≠ []) (r0 : p.right ≠ []) : lcms 1 (lensOf [p]) ≤ m * n := by
  rw [lcm_two]
  have a := List.length_pos_iff.mpr l0
  have b := List.length_pos_iff.mpr r0
  have h : Nat.lcm p.left.length p.right.length ∣ p.left.length * p.right.length := Nat.lcm_dvd (Nat.dvd_mul_right _ _) (Nat.dvd_mul_left _ _)
  exact Nat.le_trans (Nat.le_of_dvd (Nat.mul_pos a b) h) (Nat.mul_le_mul h1 h2)
theorem lcm_two_dvd {p : Pat} {k : Nat} (h1 : p.left.length ∣ k) (h2 : p.right.length ∣ k) : lcms 1 (lensOf [p]) ∣ k := by
  rw [lcm_two]
  exact Nat.lcm_dvd h1 h2
theorem lens2 (a b : Pat) : lensOf [a, b] = [a.left.length, a.right.length, b.left.length, b.right.length] := by simp [lensOf]
theorem lcm4_dvd {a b : Pat} {k : Nat} (h1 : a.left.length ∣ k) (h2 : a.right.length ∣ k) (h3 : b.left.length ∣ k) (h4 : b.right.length ∣ k) : lcms 1 (lensOf [a, b]) ∣ k := by
  rw [lens2]
  refine lcms_least _ _ _ (Nat.one_dvd _) fun n hn => ?_
  simp only [List.mem_cons, List.not_mem_nil, or_false] at hn
  rcases hn with e | e | e | e <;> rw [e] <;> assumption
theorem dvd60 {n : Nat} (h0 : 0 < n) (h1 : n ≤ 6) : n ∣ 60 := by
  rcases (show n = 1 ∨ n = 2 ∨ n = 3 ∨ n = 4 ∨ n = 5 ∨ n = 6 by omega) with e | e | e | e | e | e <;> subst e <;> decide
theorem lcm4_le {a b : Pat} (oa : a.Ok) (ob : b.Ok) (h1 : a.left.length ≤ 6) (h2 : a.right.length ≤ 6) (h3 : b.left.length ≤ 6) (h4 : b.right.length ≤ 6) : lcms 1 (lensOf [a, b]) ≤ 60 := by
  have n1 := List.length_pos_iff.mpr oa.l0
  have n2 := List.length_pos_iff.mpr oa.r0
  have n3 := List.length_pos_iff.mpr ob.l0
  have n4 := List.length_pos_iff.mpr ob.r0
  exact Nat.le_of_dvd (by omega) (lcm4_dvd (dvd60 n1 h1) (dvd60 n2 h2) (dvd60 n3 h3) (dvd60 n4 h4))
theorem lcm2_pos {a : Pat} (oa : a.Ok) : 0 < lcms 1 (lensOf [a]) := by
  have n1 := List.length_pos_iff.mpr oa.l0
  have n2 := List.length_pos_iff.mpr oa.r0
  rw [lcm_two]
  exact Nat.lcm_pos n1 n2
theorem rowAt_one (b : Bool) (y : Int) : rowAt [b] y = b := by
  unfold rowAt
  show List.getD [b] (y % 1).toNat false = b
  rw [Int.emod_one]
  rfl
theorem wr_all (b : Bool) : Wr (fun _ => b) ⟨[b], 0, [], [b]⟩ := by
  have pr : Prim [b] := ⟨by simp, fun L hL _ => hL⟩
  exact ⟨pr, pr, .inl ⟨rfl, fun y => (rowAt_one b y).symm, rfl, rfl⟩⟩
set_option maxHeartbeats 16000000 in
theorem ok_law (T : Txt K mg) (tb_beside : LamX.TabB base mg T.c_beside T.t_beside) (tb_union : LamX.TabB base mg T.c_union T.t_union) (tb_meet : LamX.TabB base mg T.c_meet T.t_meet) : FnOk P w K mg base CX0 8 T.a_law T.fd_law ["_law_script"] (sayLaw K T.Tb) := by
  refine T.F_law.ok sc_law (fun vs H Q E h => ?_) (fun cdv A outer s H vs Q E hr h => ?_)
  · obtain ⟨a, ns, rfl, _⟩ := h
    rfl
  · obtain ⟨a, ns, rfl, hS, _, htb, q⟩ := h
    refine ⟨_, pss_cons (ps_set (i := 1) sc_law.nd rfl (.inl rfl) (pe_lst (pa_cons pe_int (pa_cons pe_int (pa_cons (pe_callTy call_list_of (by rfl) T.z_list bo_list (pa_cons (pv 0) pa_nil)) (pa_cons pe_int pa_nil)))))) (ss_from fun i hW => (ss_cons (st_set 2 sc_law.nd (ae_callD rfl hW (ok_l_pattern T) (hr.mono (by decide)) (by rfl) T.m_l_pattern T.F_l_pattern.kp T.b_l_pattern pass0 (aa_cons (ae_var 1) aa_nil)))
      (ss_cons (st_set 3 sc_law.nd (ae_callD rfl hW (ok_l_pattern T) (hr.mono (by decide)) (by rfl) T.m_l_pattern T.F_l_pattern.kp T.b_l_pattern pass0 (aa_cons (ae_var 1) aa_nil)))
      (ss_cons (st_if (aw_or (at_cmp (oa_ne hr.units) (ae_callD rfl hW (ok_union T tb_union) (hr.mono (by decide)) (by rfl) T.m_union T.F_union.kp T.b_union pass0 (aa_cons (ae_var 2) (aa_cons (ae_var 3) aa_nil))) (ae_call (ok_l_of T) (hr.mono (by decide)) (by rfl) T.m_l_of T.F_l_of.kp T.b_l_of pass0 (aa_cons (ae_var 2) (aa_cons (ae_var 3) (aa_cons ae_int aa_nil))))) (aw_or1 (at_cmp (oa_ne hr.units) (ae_callD rfl hW (ok_meet T tb_meet) (hr.mono (by decide)) (by rfl) T.m_meet T.F_meet.kp T.b_meet pass0 (aa_cons (ae_var 2) (aa_cons (ae_var 3) aa_nil))) (ae_call (ok_l_of T) (hr.mono (by decide)) (by rfl) T.m_l_of T.F_l_of.kp T.b_l_of pass0 (aa_cons (ae_var 2) (aa_cons (ae_var 3) (aa_cons ae_int aa_nil))))))).t
        (ss_one (st_ret ae_bl))
        ss_nil)
      (ss_cons (st_set 4 sc_law.nd (ae_tup (aa_cons (ae_callD rfl hW (ok_l_row T) (hr.mono (by decide)) (by rfl) T.m_l_row T.F_l_row.kp T.b_l_row pass0 (aa_cons (ae_var 1) (aa_cons ae_int (aa_cons ae_int aa_nil)))) (aa_cons (ae_op oa_sub (ae_callD rfl hW (ok_l_draw T) (hr.mono (by decide)) (by rfl) T.m_l_draw T.F_l_draw.kp T.b_l_draw pass0 (aa_cons (ae_var 1) (aa_cons ae_int aa_nil))) ae_int) (aa_cons (ae_callD rfl hW (ok_l_row T) (hr.mono (by decide)) (by rfl) T.m_l_row T.F_l_row.kp T.b_l_row pass0 (aa_cons (ae_var 1) (aa_cons ae_int (aa_cons ae_int aa_nil)))) (aa_cons (ae_callD rfl hW (ok_l_row T) (hr.mono (by decide)) (by rfl) T.m_l_row T.F_l_row.kp T.b_l_row pass0 (aa_cons (ae_var 1) (aa_cons ae_int (aa_cons ae_int aa_nil)))) aa_nil))))))
      (ss_cons (st_if (aw_or (at_cmp (oa_ne hr.units) (ae_callD rfl hW (ok_beside T tb_beside) (hr.mono (by decide)) (by rfl) T.m_beside T.F_beside.kp T.b_beside pass0 (aa_cons (ae_callD rfl hW (ok_beside T tb_beside) (hr.mono (by decide)) (by rfl) T.m_beside T.F_beside.kp T.b_beside pass0 (aa_cons (ae_var 4) aa_nil)) aa_nil)) (ae_call (ok_l_written T) (hr.mono (by decide)) (by rfl) T.m_l_written T.F_l_written.kp T.b_l_written pass0 (aa_cons (ae_var 4) aa_nil))) (aw_or (at_cmp (oa_ne hr.units) (ae_callD rfl hW (ok_union T tb_union) (hr.mono (by decide)) (by rfl) T.m_union T.F_union.kp T.b_union pass0 (aa_cons (ae_var 4) (aa_cons (ae_var 4) aa_nil))) (ae_call (ok_l_written T) (hr.mono (by decide)) (by rfl) T.m_l_written T.F_l_written.kp T.b_l_written pass0 (aa_cons (ae_var 4) aa_nil))) (aw_or1 (at_cmp (oa_ne hr.units) (ae_callD rfl hW (ok_meet T tb_meet) (hr.mono (by decide)) (by rfl) T.m_meet T.F_meet.kp T.b_meet pass0 (aa_cons (ae_var 4) (aa_cons (ae_var 4) aa_nil))) (ae_call (ok_l_written T) (hr.mono (by decide)) (by rfl) T.m_l_written T.F_l_written.kp T.b_l_written pass0 (aa_cons (ae_var 4) aa_nil)))))).t
        (ss_one (st_ret ae_bl))
        ss_nil)
      (ss_cons (st_set 5 sc_law.nd (ae_callD rfl hW (ok_beside T tb_beside) (hr.mono (by decide)) (by rfl) T.m_beside T.F_beside.kp T.b_beside pass0 (aa_cons (ae_var 2) aa_nil)))
      (ss_cons (st_for PassesOwn.never rfl (ai_seq (ae_ty ka_list (by rfl) T.z_list bo_list (aa_cons (ae_op oa_add (ae_op oa_add (ae_ix (ae_var 5) ae_int) (ae_ix (ae_var 5) ae_int)) (ae_ix (ae_var 5) ae_int)) aa_nil))) (ag_name 6 sc_law.nd)
        (ss_one (st_if (at_not (at_tru (ae_blt ka_isi (by rfl) T.z_isinstance bo_isinstance (aa_cons (ae_var 6) (aa_cons (ae_tyname (by rfl) T.z_bool bo_bool) aa_nil)))))
          (ss_one (st_ret ae_bl))
          ss_nil)))
      (ss_cons (st_if (aw_or (at_cmp (oa_ne hr.units) (ae_callD rfl hW (ok_beside T tb_beside) (hr.mono (by decide)) (by rfl) T.m_beside T.F_beside.kp T.b_beside pass0 (aa_cons (ae_var 5) aa_nil)) (ae_var 2)) (aw_or (at_cmp (oa_ne hr.units) (ae_callD rfl hW (ok_union T tb_union) (hr.mono (by decide)) (by rfl) T.m_union T.F_union.kp T.b_union pass0 (aa_cons (ae_var 2) (aa_cons (ae_var 5) aa_nil))) (ae_tup (aa_cons (ae_tup (aa_cons ae_bl aa_nil)) (aa_cons ae_int (aa_cons (ae_tup aa_nil) (aa_cons (ae_tup (aa_cons ae_bl aa_nil)) aa_nil)))))) (aw_or1 (at_cmp (oa_ne hr.units) (ae_callD rfl hW (ok_meet T tb_meet) (hr.mono (by decide)) (by rfl) T.m_meet T.F_meet.kp T.b_meet pass0 (aa_cons (ae_var 2) (aa_cons (ae_var 5) aa_nil))) (ae_tup (aa_cons (ae_tup (aa_cons ae_bl aa_nil)) (aa_cons ae_int (aa_cons (ae_tup aa_nil) (aa_cons (ae_tup (aa_cons ae_bl aa_nil)) aa_nil))))))))).t
        (ss_one (st_ret ae_bl))
        ss_nil)
      (ss_cons (st_for PassesOwn.never rfl (ai_r1 (by rfl) T.z_range ae_int) (ag_name 7 sc_law.nd)
        (ss_cons (st_set 8 sc_law.nd (ae_op oa_sub (ae_callD rfl hW (ok_l_draw T) (hr.mono (by decide)) (by rfl) T.m_l_draw T.F_l_draw.kp T.b_l_draw pass0 (aa_cons (ae_var 1) (aa_cons ae_int aa_nil))) ae_int))
        (ss_cons (st_if (aw_or (at_cmp (oa_ne hr.units) (ae_call (ok_is_in T) (hr.mono (by decide)) (by rfl) T.m_is_in T.F_is_in.kp T.b_is_in pass0 (aa_cons (ae_var 2) (aa_cons (ae_var 8) aa_nil))) (ae_call (ok_l_in T) (hr.mono (by decide)) (by rfl) T.m_l_in T.F_l_in.kp T.b_l_in pass0 (aa_cons (ae_var 2) (aa_cons (ae_var 8) aa_nil)))) (aw_or1 (at_cmp (oa_eq hr.units) (ae_call (ok_is_in T) (hr.mono (by decide)) (by rfl) T.m_is_in T.F_is_in.kp T.b_is_in pass0 (aa_cons (ae_var 5) (aa_cons (ae_var 8) aa_nil))) (ae_call (ok_l_in T) (hr.mono (by decide)) (by rfl) T.m_l_in T.F_l_in.kp T.b_l_in pass0 (aa_cons (ae_var 2) (aa_cons (ae_var 8) aa_nil)))))).t
          (ss_one (st_ret ae_bl))
          ss_nil)
        (ss_one (st_if (at_not (at_tru (ae_blt ka_isi (by rfl) T.z_isinstance bo_isinstance (aa_cons (ae_call (ok_is_in T) (hr.mono (by decide)) (by rfl) T.m_is_in T.F_is_in.kp T.b_is_in pass0 (aa_cons (ae_var 5) (aa_cons (ae_var 8) aa_nil))) (aa_cons (ae_tyname (by rfl) T.z_bool bo_bool) aa_nil)))))
          (ss_one (st_ret ae_bl))
          ss_nil)))))
      (ss_one (st_ret (ae_and (ae_cmp (oa_eq hr.units) (ae_var 5) (ae_call (ok_l_written T) (hr.mono (by decide)) (by rfl) T.m_l_written T.F_l_written.kp T.b_l_written pass0 (aa_cons (ae_var 5) aa_nil))) (ae_and (ae_cmp (oa_eq hr.units) (ae_callD rfl hW (ok_union T tb_union) (hr.mono (by decide)) (by rfl) T.m_union T.F_union.kp T.b_union pass0 (aa_cons (ae_var 2) (aa_cons (ae_var 2) aa_nil))) (ae_var 2)) (ae_one (ae_cmp (oa_eq hr.units) (ae_callD rfl hW (ok_meet T tb_meet) (hr.mono (by decide)) (by rfl) T.m_meet T.F_meet.kp T.b_meet pass0 (aa_cons (ae_var 2) (aa_cons (ae_var 2) aa_nil))) (ae_var 2))))))))))))))))), ?_⟩
    refine ⟨_, rfl, a, ns.map V.int, rfl, .inl hS, fun scr hscr => ⟨by show 4 ≤ sizeLine; decide, fun st hst => ?_⟩⟩
    have hne : scr ≠ st := fun z => by
      rw [z, upd_same] at hst
      cases hst
    refine ⟨⟨st, scr, ns, _⟩, law_begin (n := 7) ((upd_ne hne).trans upd_same) upd_same hne (tabs_new (tabs_new htb hscr) hst) q ?_⟩
    clear hS q hst hscr
    walk_at "ab"
    refine ⟨rfl, fun p ok sm pl pr pm ps0 ps1 => ?_⟩
    obtain ⟨p', _, wp'⟩ := sm
    have wp : Wr (inP p) p := wp'.to fun y => (wp'.inP y).symm
    have fp : p.fin = p.start + p.mid.length := rfl
    walk_at "ab"
    refine ⟨rfl, fun p2 ok2 sm2 pl2 pr2 pm2 ps20 ps21 => ?_⟩
    clear sm2
    have fp2 : p2.fin = p2.start + p2.mid.length := rfl
    have m1 : p.left.length * p2.left.length ≤ 6 * 6 := Nat.mul_le_mul pl pl2
    have m2 : p.right.length * p2.right.length ≤ 6 * 6 := Nat.mul_le_mul pr pr2
    have l12 := lcm4_le ok ok2 pl pr pl2 pr2
    walk_at "ab"
    refine ⟨p, p2, 400, rfl, ok, ok2, by omega, by omega, by omega, by omega, by omega, by omega, by omega, fun q1 w1 _ _ _ _ _ _ => ?_⟩
    refine ⟨p, p2, 0, rfl, ok, ok2, by omega, by omega, by omega, by omega, by omega, by omega, fun q2 w2 => ?_⟩
    have e12 := w1.unique (w2.to fun y => rfl)
    subst e12
    simp only [ne_pat]
    walk_at "ab"
    refine ⟨p, p2, 400, rfl, ok, ok2, by omega, by omega, by omega, by omega, by omega, by omega, by omega, fun q3 w3 _ _ _ _ _ _ => ?_⟩
    refine ⟨p, p2, 1, rfl, ok, ok2, by omega, by omega, by omega, by omega, by omega, by omega, fun q4 w4 => ?_⟩
    have e34 := w3.unique (w4.to fun y => rfl)
    subst e34
    simp only [ne_pat]
    walk_at "ab"
    -- raw
    refine ⟨1, 6, rfl, by omega, by omega, by omega, fun b1 x1 y1 => ?_⟩
    refine ⟨21, rfl, by omega, by omega, fun d2 d20 d21 => ?_⟩
    walk_at "ab"
    refine ⟨0, 6, rfl, by omega, by omega, by omega, fun b2 x2 y2 => ?_⟩
    refine ⟨1, 6, rfl, by omega, by omega, by omega, fun b3 x3 y3 => ?_⟩
    walk_at "ab"
    have n1 : b1 ≠ [] := fun z => by rw [z] at x1; simp at x1
    have n3 : b3 ≠ [] := fun z => by rw [z] at x3; simp at x3
    obtain ⟨w, ew, okw, wl, wr, wm, ws0, ws1⟩ : ∃ p : Pat, PyData.tuple [bools b1, .int (d2 - 10), bools b2, bools b3] = patD p ∧ p.Ok ∧ p.left.length ≤ 6 ∧ p.right.length ≤ 6 ∧ p.mid.length ≤ 6 ∧ -10 ≤ p.start ∧ p.start ≤ 10 := ⟨⟨b1, d2 - 10, b2, b3⟩, rfl, ⟨n1, n3, by show b1.length ≤ 1000; omega, by show b3.length ≤ 1000; omega, by show b2.length ≤ 30000; omega, by show -1000000 ≤ d2 - 10; omega, by show d2 - 10 ≤ 1000000; omega⟩, by show b1.length ≤ 6; omega, by show b3.length ≤ 6; omega, by show b2.length ≤ 6; omega, by show -10 ≤ d2 - 10; omega, by show d2 - 10 ≤ 10; omega⟩
    rw [ew]
    clear ew
    have fw : w.fin = w.start + w.mid.length := rfl
    have lw := lcm_two_le wl wr okw.l0 okw.r0
    have lww := lcm4_le okw okw wl wr wl wr
    have lw0 := lcm2_pos okw
    have pw : (w.left.length : Int) * w.right.length ≤ 6 * 6 := Int.mul_le_mul (by omega) (by omega) (by omega) (by omega)
    have pw0 : (0 : Int) ≤ (w.left.length : Int) * w.right.length := Int.mul_nonneg (by omega) (by omega)
    refine ⟨w, 100, rfl, okw, by omega, by omega, by omega, by omega, by omega, fun q5 w5 d5 e5 ok5 s5 t5 m5 => ?_⟩
    have f5 : q5.fin = q5.start + q5.mid.length := rfl
    have l5 := Nat.le_of_dvd lw0 (lcm_two_dvd d5 e5)
    walk_at "ab"
    refine ⟨q5, 1200, rfl, ok5, by omega, by omega, by omega, by omega, by omega, fun q6 w6 _ _ _ _ _ _ => ?_⟩
    refine ⟨w, rfl, okw.l0, okw.r0, by omega, by omega, by omega, by omega, by omega, fun q7 w7 _ _ _ _ _ _ => ?_⟩
    have e67 := w6.unique (w7.to fun y => by rw [w5.inP, Bool.not_not])
    subst e67
    simp only [ne_pat]
    walk_at "ab"
    refine ⟨w, w, 100, rfl, okw, okw, by omega, by omega, by omega, by omega, by omega, by omega, by omega, fun q8 w8 _ _ _ _ _ _ => ?_⟩
    refine ⟨w, rfl, okw.l0, okw.r0, by omega, by omega, by omega, by omega, by omega, fun q9 w9 _ _ _ _ _ _ => ?_⟩
    have e89 := w8.unique (w9.to fun y => (Bool.or_self _).symm)
    subst e89
    simp only [ne_pat]
    walk_at "ab"
    refine ⟨w, w, 100, rfl, okw, okw, by omega, by omega, by omega, by omega, by omega, by omega, by omega, fun q10 w10 _ _ _ _ _ _ => ?_⟩
    refine ⟨w, rfl, okw.l0, okw.r0, by omega, by omega, by omega, by omega, by omega, fun q11 w11 _ _ _ _ _ _ => ?_⟩
    have e1011 := w10.unique (w11.to fun y => (Bool.and_self _).symm)
    subst e1011
    simp only [ne_pat]
    walk_at "ab"
    -- the other one
    have lp := lcm_two_le pl pr ok.l0 ok.r0
    have lp0 := lcm2_pos ok
    refine ⟨p, 400, rfl, ok, by omega, by omega, by omega, by omega, by omega, fun o wo dl dr oko so to mo => ?_⟩
    have fo : o.fin = o.start + o.mid.length := rfl
    have ol := Nat.le_of_dvd lp0 dl
    have or' := Nat.le_of_dvd lp0 dr
    have lo := Nat.le_of_dvd lp0 (lcm_two_dvd dl dr)
    have lpo := Nat.le_of_dvd lp0 (lcm4_dvd (a := p) (b := o) (lcms_mem _ _ _ (by simp [lensOf])) (lcms_mem _ _ _ (by simp [lensOf])) dl dr)
    have lpp := lcm4_le ok ok pl pr pl pr
    walk_at "ab"
    rw [show patD o = .tuple [bools o.left, .int o.start, bools o.mid, bools o.right] from rfl]
    unfold bools
    walk_at "ab"
    refine ⟨size_le (by omega), size_le (by simp; omega), fun _ Γ => ∃ g6, Γ = [none, some (.obj (isRef st)), some (.dat (patD p)), some (.dat (patD p2)), some (.dat (patD w)), some (.dat (patD o)), g6, none, none], ⟨none, rfl⟩, ?_, ?_⟩
    · rintro i d hd Γ ⟨g6, rfl⟩
      have hb : ∃ b, d = .bool b := by
        have := List.mem_of_getElem? hd
        simp only [List.mem_append, List.mem_map] at this
        rcases this with (⟨b, _, e⟩ | ⟨b, _, e⟩) | ⟨b, _, e⟩ <;> exact ⟨b, e.symm⟩
      obtain ⟨b, rfl⟩ := hb
      refine ⟨_, rfl, ?_⟩
      walk_at "ab"
      exact ⟨_, rfl⟩
    · rintro Γ ⟨g6, rfl⟩
      walk_at "ab"
      refine ⟨o, 2000, rfl, oko, by omega, by omega, by omega, by omega, by omega, fun q12 w12 _ _ _ _ _ _ => ?_⟩
      rw [w12.unique (wp.to fun y => by rw [wo.inP, Bool.not_not])]
      simp only [ne_pat]
      walk_at "ab"
      refine ⟨p, o, 2000, rfl, ok, oko, by omega, by omega, by omega, by omega, by omega, by omega, by omega, fun q13 w13 _ _ _ _ _ _ => ?_⟩
      rw [w13.unique ((wr_all true).to fun y => by rw [wo.inP]; simp), show (PyData.tuple [PyData.tuple [PyData.bool true], PyData.int 0, PyData.tuple [], PyData.tuple [PyData.bool true]]) = patD ⟨[true], 0, [], [true]⟩ from rfl]
      simp only [ne_pat]
      walk_at "ab"
      refine ⟨p, o, 2000, rfl, ok, oko, by omega, by omega, by omega, by omega, by omega, by omega, by omega, fun q14 w14 _ _ _ _ _ _ => ?_⟩
      rw [w14.unique ((wr_all false).to fun y => by rw [wo.inP]; simp), show (PyData.tuple [PyData.tuple [PyData.bool false], PyData.int 0, PyData.tuple [], PyData.tuple [PyData.bool false]]) = patD ⟨[false], 0, [], [false]⟩ from rfl]
      simp only [ne_pat]
      walk_at "ab"
      refine ⟨by omega, by omega, fun _ Γ => ∃ g6 g7 g8, Γ = [none, some (.obj (isRef st)), some (.dat (patD p)), some (.dat (patD p2)), some (.dat (patD w)), some (.dat (patD o)), g6, g7, g8], ⟨_, _, _, rfl⟩, ?_, ?_⟩
      · rintro i hi Γ ⟨g6, g7, g8, rfl⟩
        refine ⟨_, rfl, ?_⟩
        walk_at "ab"
        refine ⟨101, rfl, by omega, by omega, fun y y0 y1 => ?_⟩
        walk_at "ab"
        refine ⟨p, _, rfl, ok, ?_⟩
        walk_at "ab"
        refine ⟨p, _, rfl, ok, ?_⟩
        walk_at "ab"
        simp only [beq_self_eq_true, Bool.not_true, Bool.false_eq_true, if_false]
        refine ⟨o, _, rfl, oko, ?_⟩
        walk_at "ab"
        refine ⟨p, _, rfl, ok, ?_⟩
        walk_at "ab"
        rw [wo.inP, if_neg (by simp)]
        refine ⟨o, _, rfl, oko, ?_⟩
        walk_at "ab"
        exact ⟨_, _, _, rfl⟩
      · rintro Γ ⟨g6, g7, g8, rfl⟩
        walk_at "ab"
        have po : (o.left.length : Int) * o.right.length ≤ 36 * 36 := Int.mul_le_mul (by omega) (by omega) (by omega) (by omega)
        have po0 : (0 : Int) ≤ (o.left.length : Int) * o.right.length := Int.mul_nonneg (by omega) (by omega)
        refine ⟨o, rfl, oko.l0, oko.r0, by omega, by omega, by omega, by omega, by omega, fun q15 w15 _ _ _ _ _ _ => ?_⟩
        rw [w15.unique (wo.to fun y => (wo.inP y).symm)]
        simp only [eq_pat]
        walk_at "ab"
        refine ⟨p, p, 400, rfl, ok, ok, by omega, by omega, by omega, by omega, by omega, by omega, by omega, fun q16 w16 _ _ _ _ _ _ => ?_⟩
        rw [w16.unique (wp.to fun y => (Bool.or_self _).symm)]
        simp only [eq_pat]
        walk_at "ab"
        refine ⟨p, p, 400, rfl, ok, ok, by omega, by omega, by omega, by omega, by omega, by omega, by omega, fun q17 w17 _ _ _ _ _ _ => ?_⟩
        rw [w17.unique (wp.to fun y => (Bool.and_self _).symm)]
        simp only [eq_pat]
        exact yes_rt.mpr rfl
end
end Lw
namespace Lw
open PySem PySem.Spec PyProof.Rows L2 Ab
theorem all_mk {l : PySem.W.OpenLaw} {w : World} {K : PySem.W.Frag} {h : Heap} {mg mb : Str → Option Value} {mean : ExcName → Option Value} {q : Program} {lo : List Str} {fa f1 f2 f3 f4 f5 f6 f7 f8 f9 f10 f11 f12 f13 f14 f15 f16 f17 f18 f19 f20 f21 cc9 P9 cc11 P11 cc12 P12 : Addr} (X : K.In h) (Tp : Top q lo mean mg mb h) (G : h.Ns mainGlobals mg) (hfa : mg "law" = some (.ref fa))
    {od1 an1 od2 an2 od3 an3 od4 an4 od5 an5 od6 an6 od7 an7 od8 an8 od9 an9 od10 an10 od11 an11 od12 an12 od13 an13 od14 an14 od15 an15 od16 an16 od17 an17 od18 an18 od19 an19 od20 an20 od21 an21 : Option Addr} {sl1 sl2 sl3 sl4 sl5 sl6 sl7 sl8 sl9 sl10 sl11 sl12 sl13 sl14 sl15 sl16 sl17 sl18 sl19 sl20 sl21 : Array (Option Value)} {oc1 kV1 dc1 pm1 ct1 cd1 oc2 kV2 dc2 pm2 ct2 cd2 oc3 kV3 dc3 pm3 ct3 cd3 oc4 kV4 dc4 pm4 ct4 cd4 oc5 kV5 dc5 pm5 ct5 cd5 oc6 kV6 dc6 pm6 ct6 cd6 oc7 kV7 dc7 pm7 ct7 cd7 oc8 kV8 dc8 pm8 ct8 cd8 oc9 kV9 dc9 pm9 ct9 oc10 kV10 dc10 pm10 ct10 cd10 oc11 kV11 dc11 pm11 ct11 oc12 kV12 dc12 pm12 ct12 oc13 kV13 dc13 pm13 ct13 cd13 oc14 kV14 dc14 pm14 ct14 cd14 oc15 kV15 dc15 pm15 ct15 cd15 oc16 kV16 dc16 pm16 ct16 cd16 oc17 kV17 dc17 pm17 ct17 cd17 oc18 kV18 dc18 pm18 ct18 cd18 oc19 kV19 dc19 pm19 ct19 cd19 oc20 kV20 dc20 pm20 ct20 cd20 oc21 kV21 dc21 pm21 ct21 cd21 : Value}
    {tk_MOST_PERIOD tk_MOST_MIDDLE : Tok}
    (a1 : PySem.W.nsIn K mainGlobals "greatest_divisor" = some (some (.ref f1))) (l1 : K.lookup f1 = some ⟨oc1, od1, .func (PySem.W.fnOf "greatest_divisor" "greatest_divisor" (defArgs s_greatest_divisor) (defBody s_greatest_divisor) (defScope s_greatest_divisor) .none kV1 dc1 pm1 an1 cd1 ct1), sl1⟩) (c1 : PySem.W.codeIn K cd1 "greatest_divisor" = true) (k1 : PySem.W.keepIn K (.ref f1) = true)
    (a2 : PySem.W.nsIn K mainGlobals "common_multiple" = some (some (.ref f2))) (l2 : K.lookup f2 = some ⟨oc2, od2, .func (PySem.W.fnOf "common_multiple" "common_multiple" (defArgs s_common_multiple) (defBody s_common_multiple) (defScope s_common_multiple) .none kV2 dc2 pm2 an2 cd2 ct2), sl2⟩) (c2 : PySem.W.codeIn K cd2 "common_multiple" = true) (k2 : PySem.W.keepIn K (.ref f2) = true)
    (a3 : PySem.W.nsIn K mainGlobals "is_in" = some (some (.ref f3))) (l3 : K.lookup f3 = some ⟨oc3, od3, .func (PySem.W.fnOf "is_in" "is_in" (defArgs s_is_in) (defBody s_is_in) (defScope s_is_in) .none kV3 dc3 pm3 an3 cd3 ct3), sl3⟩) (c3 : PySem.W.codeIn K cd3 "is_in" = true) (k3 : PySem.W.keepIn K (.ref f3) = true)
    (a4 : PySem.W.nsIn K mainGlobals "shortest" = some (some (.ref f4))) (l4 : K.lookup f4 = some ⟨oc4, od4, .func (PySem.W.fnOf "shortest" "shortest" (defArgs s_shortest) (defBody s_shortest) (defScope s_shortest) .none kV4 dc4 pm4 an4 cd4 ct4), sl4⟩) (c4 : PySem.W.codeIn K cd4 "shortest" = true) (k4 : PySem.W.keepIn K (.ref f4) = true)
    (a5 : PySem.W.nsIn K mainGlobals "made" = some (some (.ref f5))) (l5 : K.lookup f5 = some ⟨oc5, od5, .func (PySem.W.fnOf "made" "made" (defArgs s_made) (defBody s_made) (defScope s_made) .none kV5 dc5 pm5 an5 cd5 ct5), sl5⟩) (c5 : PySem.W.codeIn K cd5 "made" = true) (k5 : PySem.W.keepIn K (.ref f5) = true)
    (a6 : PySem.W.nsIn K mainGlobals "rests_row" = some (some (.ref f6))) (l6 : K.lookup f6 = some ⟨oc6, od6, .func (PySem.W.fnOf "rests_row" "rests_row" (defArgs s_rests_row) (defBody s_rests_row) (defScope s_rests_row) .none kV6 dc6 pm6 an6 cd6 ct6), sl6⟩) (c6 : PySem.W.codeIn K cd6 "rests_row" = true) (k6 : PySem.W.keepIn K (.ref f6) = true)
    (a7 : PySem.W.nsIn K mainGlobals "first_unlike" = some (some (.ref f7))) (l7 : K.lookup f7 = some ⟨oc7, od7, .func (PySem.W.fnOf "first_unlike" "first_unlike" (defArgs s_first_unlike) (defBody s_first_unlike) (defScope s_first_unlike) .none kV7 dc7 pm7 an7 cd7 ct7), sl7⟩) (c7 : PySem.W.codeIn K cd7 "first_unlike" = true) (k7 : PySem.W.keepIn K (.ref f7) = true)
    (a8 : PySem.W.nsIn K mainGlobals "last_unlike" = some (some (.ref f8))) (l8 : K.lookup f8 = some ⟨oc8, od8, .func (PySem.W.fnOf "last_unlike" "last_unlike" (defArgs s_last_unlike) (defBody s_last_unlike) (defScope s_last_unlike) .none kV8 dc8 pm8 an8 cd8 ct8), sl8⟩) (c8 : PySem.W.codeIn K cd8 "last_unlike" = true) (k8 : PySem.W.keepIn K (.ref f8) = true)
    (a9 : PySem.W.nsIn K mainGlobals "beside" = some (some (.ref f9))) (l9 : K.lookup f9 = some ⟨oc9, od9, .func (PySem.W.fnOf "beside" "beside" (defArgs s_beside) (defBody s_beside) (defScope s_beside) .none kV9 dc9 pm9 an9 (.ref cc9) ct9), sl9⟩) (c9 : PySem.W.codeIn K (.ref cc9) "beside" = true) (k9 : PySem.W.keepIn K (.ref f9) = true)
    (a10 : PySem.W.nsIn K mainGlobals "edges_of" = some (some (.ref f10))) (l10 : K.lookup f10 = some ⟨oc10, od10, .func (PySem.W.fnOf "edges_of" "edges_of" (defArgs s_edges_of) (defBody s_edges_of) (defScope s_edges_of) .none kV10 dc10 pm10 an10 cd10 ct10), sl10⟩) (c10 : PySem.W.codeIn K cd10 "edges_of" = true) (k10 : PySem.W.keepIn K (.ref f10) = true)
    (a11 : PySem.W.nsIn K mainGlobals "union" = some (some (.ref f11))) (l11 : K.lookup f11 = some ⟨oc11, od11, .func (PySem.W.fnOf "union" "union" (defArgs s_union) (defBody s_union) (defScope s_union) .none kV11 dc11 pm11 an11 (.ref cc11) ct11), sl11⟩) (c11 : PySem.W.codeIn K (.ref cc11) "union" = true) (k11 : PySem.W.keepIn K (.ref f11) = true)
    (a12 : PySem.W.nsIn K mainGlobals "meet" = some (some (.ref f12))) (l12 : K.lookup f12 = some ⟨oc12, od12, .func (PySem.W.fnOf "meet" "meet" (defArgs s_meet) (defBody s_meet) (defScope s_meet) .none kV12 dc12 pm12 an12 (.ref cc12) ct12), sl12⟩) (c12 : PySem.W.codeIn K (.ref cc12) "meet" = true) (k12 : PySem.W.keepIn K (.ref f12) = true)
    (a13 : PySem.W.nsIn K mainGlobals "_law_draw" = some (some (.ref f13))) (l13 : K.lookup f13 = some ⟨oc13, od13, .func (PySem.W.fnOf "_law_draw" "_law_draw" (defArgs s_l_draw) (defBody s_l_draw) (defScope s_l_draw) .none kV13 dc13 pm13 an13 cd13 ct13), sl13⟩) (c13 : PySem.W.codeIn K cd13 "_law_draw" = true) (k13 : PySem.W.keepIn K (.ref f13) = true)
    (a14 : PySem.W.nsIn K mainGlobals "_law_row" = some (some (.ref f14))) (l14 : K.lookup f14 = some ⟨oc14, od14, .func (PySem.W.fnOf "_law_row" "_law_row" (defArgs s_l_row) (defBody s_l_row) (defScope s_l_row) .none kV14 dc14 pm14 an14 cd14 ct14), sl14⟩) (c14 : PySem.W.codeIn K cd14 "_law_row" = true) (k14 : PySem.W.keepIn K (.ref f14) = true)
    (a15 : PySem.W.nsIn K mainGlobals "_law_short" = some (some (.ref f15))) (l15 : K.lookup f15 = some ⟨oc15, od15, .func (PySem.W.fnOf "_law_short" "_law_short" (defArgs s_l_short) (defBody s_l_short) (defScope s_l_short) .none kV15 dc15 pm15 an15 cd15 ct15), sl15⟩) (c15 : PySem.W.codeIn K cd15 "_law_short" = true) (k15 : PySem.W.keepIn K (.ref f15) = true)
    (a16 : PySem.W.nsIn K mainGlobals "_law_in" = some (some (.ref f16))) (l16 : K.lookup f16 = some ⟨oc16, od16, .func (PySem.W.fnOf "_law_in" "_law_in" (defArgs s_l_in) (defBody s_l_in) (defScope s_l_in) .none kV16 dc16 pm16 an16 cd16 ct16), sl16⟩) (c16 : PySem.W.codeIn K cd16 "_law_in" = true) (k16 : PySem.W.keepIn K (.ref f16) = true)
    (a17 : PySem.W.nsIn K mainGlobals "_law_written" = some (some (.ref f17))) (l17 : K.lookup f17 = some ⟨oc17, od17, .func (PySem.W.fnOf "_law_written" "_law_written" (defArgs s_l_written) (defBody s_l_written) (defScope s_l_written) .none kV17 dc17 pm17 an17 cd17 ct17), sl17⟩) (c17 : PySem.W.codeIn K cd17 "_law_written" = true) (k17 : PySem.W.keepIn K (.ref f17) = true)
    (a18 : PySem.W.nsIn K mainGlobals "_law_pattern" = some (some (.ref f18))) (l18 : K.lookup f18 = some ⟨oc18, od18, .func (PySem.W.fnOf "_law_pattern" "_law_pattern" (defArgs s_l_pattern) (defBody s_l_pattern) (defScope s_l_pattern) .none kV18 dc18 pm18 an18 cd18 ct18), sl18⟩) (c18 : PySem.W.codeIn K cd18 "_law_pattern" = true) (k18 : PySem.W.keepIn K (.ref f18) = true)
    (a19 : PySem.W.nsIn K mainGlobals "_law_of" = some (some (.ref f19))) (l19 : K.lookup f19 = some ⟨oc19, od19, .func (PySem.W.fnOf "_law_of" "_law_of" (defArgs s_l_of) (defBody s_l_of) (defScope s_l_of) .none kV19 dc19 pm19 an19 cd19 ct19), sl19⟩) (c19 : PySem.W.codeIn K cd19 "_law_of" = true) (k19 : PySem.W.keepIn K (.ref f19) = true)
    (a20 : PySem.W.nsIn K mainGlobals "_law_test" = some (some (.ref f20))) (l20 : K.lookup f20 = some ⟨oc20, od20, .func (PySem.W.fnOf "_law_test" "_law_test" (defArgs s_l_test) (defBody s_l_test) (defScope s_l_test) .none kV20 dc20 pm20 an20 cd20 ct20), sl20⟩) (c20 : PySem.W.codeIn K cd20 "_law_test" = true) (k20 : PySem.W.keepIn K (.ref f20) = true)
    (a21 : PySem.W.nsIn K mainGlobals "law" = some (some (.ref f21))) (l21 : K.lookup f21 = some ⟨oc21, od21, .func (PySem.W.fnOf "law" "law" (defArgs s_law) (defBody s_law) (defScope s_law) .none kV21 dc21 pm21 an21 cd21 ct21), sl21⟩) (c21 : PySem.W.codeIn K cd21 "law" = true) (k21 : PySem.W.keepIn K (.ref f21) = true)
    (u9 : PySem.W.codeHdIn K cc9 P9 = true) (v9 : h.get? P9 = some (PySem.W.tabObj #[])) (n9 : K.lookup P9 = none)
    (u11 : PySem.W.codeHdIn K cc11 P11 = true) (v11 : h.get? P11 = some (PySem.W.tabObj #[])) (n11 : K.lookup P11 = none)
    (u12 : PySem.W.codeHdIn K cc12 P12 = true) (v12 : h.get? P12 = some (PySem.W.tabObj #[])) (n12 : K.lookup P12 = none)
    (ne9_11 : P9 ≠ P11) (ne9_12 : P9 ≠ P12) (ne11_12 : P11 ≠ P12)
    (i_MOST_PERIOD : PySem.W.nsIn K mainGlobals "MOST_PERIOD" = some (some (.int 5000 tk_MOST_PERIOD))) (i_MOST_MIDDLE : PySem.W.nsIn K mainGlobals "MOST_MIDDLE" = some (some (.int 20000 tk_MOST_MIDDLE)))
    (z_abs : PySem.W.nsIn K mainGlobals "abs" = some none) (z_bool : PySem.W.nsIn K mainGlobals "bool" = some none) (z_enumerate : PySem.W.nsIn K mainGlobals "enumerate" = some none) (z_int : PySem.W.nsIn K mainGlobals "int" = some none) (z_isinstance : PySem.W.nsIn K mainGlobals "isinstance" = some none) (z_len : PySem.W.nsIn K mainGlobals "len" = some none) (z_list : PySem.W.nsIn K mainGlobals "list" = some none) (z_max : PySem.W.nsIn K mainGlobals "max" = some none) (z_min : PySem.W.nsIn K mainGlobals "min" = some none) (z_range : PySem.W.nsIn K mainGlobals "range" = some none) (z_tuple : PySem.W.nsIn K mainGlobals "tuple" = some none) :
    LamX.LawAtS l w K CX0 8 63 "_law_script" mg fa h := by
  have e := hfa.symm.trans (PySem.W.mg_of X G a21)
  cases e
  have F1 := fun_mk (st := s_greatest_divisor) l1 c1 k1
  have F2 := fun_mk (st := s_common_multiple) l2 c2 k2
  have F3 := fun_mk (st := s_is_in) l3 c3 k3
  have F4 := fun_mk (st := s_shortest) l4 c4 k4
  have F5 := fun_mk (st := s_made) l5 c5 k5
  have F6 := fun_mk (st := s_rests_row) l6 c6 k6
  have F7 := fun_mk (st := s_first_unlike) l7 c7 k7
  have F8 := fun_mk (st := s_last_unlike) l8 c8 k8
  have F9 := funT_mk (st := s_beside) l9 c9 k9
  have F10 := fun_mk (st := s_edges_of) l10 c10 k10
  have F11 := funT_mk (st := s_union) l11 c11 k11
  have F12 := funT_mk (st := s_meet) l12 c12 k12
  have F13 := fun_mk (st := s_l_draw) l13 c13 k13
  have F14 := fun_mk (st := s_l_row) l14 c14 k14
  have F15 := fun_mk (st := s_l_short) l15 c15 k15
  have F16 := fun_mk (st := s_l_in) l16 c16 k16
  have F17 := fun_mk (st := s_l_written) l17 c17 k17
  have F18 := fun_mk (st := s_l_pattern) l18 c18 k18
  have F19 := fun_mk (st := s_l_of) l19 c19 k19
  have F20 := fun_mk (st := s_l_test) l20 c20 k20
  have F21 := fun_mk (st := s_law) l21 c21 k21
  let T : Txt K mg := { a_greatest_divisor := f1, fd_greatest_divisor := _, F_greatest_divisor := F1, m_greatest_divisor := PySem.W.mg_of X G a1, b_greatest_divisor := (F1.binds (ps := ["one", "two"]) fun _ _ _ _ _ _ us hl => match us, hl with | [_, _], _ => rfl), a_common_multiple := f2, fd_common_multiple := _, F_common_multiple := F2, m_common_multiple := PySem.W.mg_of X G a2, b_common_multiple := (F2.binds (ps := ["numbers"]) fun _ _ _ _ _ _ us hl => match us, hl with | [_], _ => rfl), a_is_in := f3, fd_is_in := _, F_is_in := F3, m_is_in := PySem.W.mg_of X G a3, b_is_in := (F3.binds (ps := ["pattern", "number"]) fun _ _ _ _ _ _ us hl => match us, hl with | [_, _], _ => rfl), a_shortest := f4, fd_shortest := _, F_shortest := F4, m_shortest := PySem.W.mg_of X G a4, b_shortest := (F4.binds (ps := ["row"]) fun _ _ _ _ _ _ us hl => match us, hl with | [_], _ => rfl), a_made := f5, fd_made := _, F_made := F5, m_made := PySem.W.mg_of X G a5, b_made := (F5.binds (ps := ["test", "period", "low", "high"]) fun _ _ _ _ _ _ us hl => match us, hl with | [_, _, _, _], _ => rfl), a_rests_row := f6, fd_rests_row := _, F_rests_row := F6, m_rests_row := PySem.W.mg_of X G a6, b_rests_row := (F6.binds (ps := ["test", "first", "period"]) fun _ _ _ _ _ _ us hl => match us, hl with | [_, _, _], _ => rfl), a_first_unlike := f7, fd_first_unlike := _, F_first_unlike := F7, m_first_unlike := PySem.W.mg_of X G a7, b_first_unlike := (F7.binds (ps := ["left", "right", "number"]) fun _ _ _ _ _ _ us hl => match us, hl with | [_, _, _], _ => rfl), a_last_unlike := f8, fd_last_unlike := _, F_last_unlike := F8, m_last_unlike := PySem.W.mg_of X G a8, b_last_unlike := (F8.binds (ps := ["left", "right", "number"]) fun _ _ _ _ _ _ us hl => match us, hl with | [_, _, _], _ => rfl), a_beside := f9, fd_beside := _, c_beside := cc9, t_beside := P9, F_beside := F9, m_beside := PySem.W.mg_of X G a9, b_beside := (F9.plain.binds (ps := ["pattern"]) fun _ _ _ _ _ _ us hl => match us, hl with | [_], _ => rfl), a_edges_of := f10, fd_edges_of := _, F_edges_of := F10, m_edges_of := PySem.W.mg_of X G a10, b_edges_of := (F10.binds (ps := ["patterns"]) fun _ _ _ _ _ _ us hl => match us, hl with | [_], _ => rfl), a_union := f11, fd_union := _, c_union := cc11, t_union := P11, F_union := F11, m_union := PySem.W.mg_of X G a11, b_union := (F11.plain.binds (ps := ["first", "second"]) fun _ _ _ _ _ _ us hl => match us, hl with | [_, _], _ => rfl), a_meet := f12, fd_meet := _, c_meet := cc12, t_meet := P12, F_meet := F12, m_meet := PySem.W.mg_of X G a12, b_meet := (F12.plain.binds (ps := ["first", "second"]) fun _ _ _ _ _ _ us hl => match us, hl with | [_, _], _ => rfl), a_l_draw := f13, fd_l_draw := _, F_l_draw := F13, m_l_draw := PySem.W.mg_of X G a13, b_l_draw := (F13.binds (ps := ["_law_state", "_law_limit"]) fun _ _ _ _ _ _ us hl => match us, hl with | [_, _], _ => rfl), a_l_row := f14, fd_l_row := _, F_l_row := F14, m_l_row := PySem.W.mg_of X G a14, b_l_row := (F14.binds (ps := ["_law_state", "_law_least", "_law_most"]) fun _ _ _ _ _ _ us hl => match us, hl with | [_, _, _], _ => rfl), a_l_short := f15, fd_l_short := _, F_l_short := F15, m_l_short := PySem.W.mg_of X G a15, b_l_short := (F15.binds (ps := ["_law_row_here"]) fun _ _ _ _ _ _ us hl => match us, hl with | [_], _ => rfl), a_l_in := f16, fd_l_in := _, F_l_in := F16, m_l_in := PySem.W.mg_of X G a16, b_l_in := (F16.binds (ps := ["_law_pattern_here", "_law_y"]) fun _ _ _ _ _ _ us hl => match us, hl with | [_, _], _ => rfl), a_l_written := f17, fd_l_written := _, F_l_written := F17, m_l_written := PySem.W.mg_of X G a17, b_l_written := (F17.binds (ps := ["_law_pattern_here"]) fun _ _ _ _ _ _ us hl => match us, hl with | [_], _ => rfl), a_l_pattern := f18, fd_l_pattern := _, F_l_pattern := F18, m_l_pattern := PySem.W.mg_of X G a18, b_l_pattern := (F18.binds (ps := ["_law_state"]) fun _ _ _ _ _ _ us hl => match us, hl with | [_], _ => rfl), a_l_of := f19, fd_l_of := _, F_l_of := F19, m_l_of := PySem.W.mg_of X G a19, b_l_of := (F19.binds (ps := ["_law_first", "_law_second", "_law_kind"]) fun _ _ _ _ _ _ us hl => match us, hl with | [_, _, _], _ => rfl), a_l_test := f20, fd_l_test := _, F_l_test := F20, m_l_test := PySem.W.mg_of X G a20, b_l_test := (F20.binds (ps := ["_law_first", "_law_second", "_law_kind", "_law_y"]) fun _ _ _ _ _ _ us hl => match us, hl with | [_, _, _, _], _ => rfl), a_law := fa, fd_law := _, F_law := F21, m_law := PySem.W.mg_of X G a21, b_law := (F21.binds (ps := ["_law_script"]) fun _ _ _ _ _ _ us hl => match us, hl with | [_], _ => rfl), z_abs := PySem.W.mg_none_of X G z_abs, z_bool := PySem.W.mg_none_of X G z_bool, z_enumerate := PySem.W.mg_none_of X G z_enumerate, z_int := PySem.W.mg_none_of X G z_int, z_isinstance := PySem.W.mg_none_of X G z_isinstance, z_len := PySem.W.mg_none_of X G z_len, z_list := PySem.W.mg_none_of X G z_list, z_max := PySem.W.mg_none_of X G z_max, z_min := PySem.W.mg_none_of X G z_min, z_range := PySem.W.mg_none_of X G z_range, z_tuple := PySem.W.mg_none_of X G z_tuple, k_MOST_PERIOD := ⟨_, PySem.W.mg_of X G i_MOST_PERIOD⟩, k_MOST_MIDDLE := ⟨_, PySem.W.mg_of X G i_MOST_MIDDLE⟩, ne_beside_union := ne9_11, ne_beside_meet := ne9_12, ne_union_meet := ne11_12 }
  have T9 : PySem.W.CodeHd h cc9 P9 ∧ h.get? P9 = some (PySem.W.tabObj #[]) := ⟨PySem.W.codeHd_of_K X u9, v9⟩
  have T11 : PySem.W.CodeHd h cc11 P11 ∧ h.get? P11 = some (PySem.W.tabObj #[]) := ⟨PySem.W.codeHd_of_K X u11, v11⟩
  have T12 : PySem.W.CodeHd h cc12 P12 ∧ h.get? P12 = some (PySem.W.tabObj #[]) := ⟨PySem.W.codeHd_of_K X u12, v12⟩
  refine ⟨(PySem.W.fnOf "law" "law" (defArgs s_law) (defBody s_law) (defScope s_law) .none kV21 dc21 pm21 an21 cd21 ct21), [(cc9, P9), (cc11, P11), (cc12, P12)], sayLaw K T.Tb, ?p1, ?p2, ?p3, fun s v => .of_eq rfl, fun H a ns hl _ hH hS => ⟨a, ns, rfl, hS, hl, ?p4, fun _ => rfl⟩, fun base _ _ hb => ok_law T (hb (cc9, P9) (by simp)) (hb (cc11, P11) (by simp)) (hb (cc12, P12) (by simp))⟩
  case p1 =>
    exact fun p hp => by
      simp only [List.mem_cons, List.not_mem_nil, or_false] at hp
      rcases hp with rfl | rfl | rfl
      · exact T9.2
      · exact T11.2
      · exact T12.2
  case p2 =>
    exact fun p hp => by
      simp only [List.mem_cons, List.not_mem_nil, or_false] at hp
      rcases hp with rfl | rfl | rfl
      · exact n9
      · exact n11
      · exact n12
  case p3 =>
    exact fun p hp => by
      simp only [List.mem_cons, List.not_mem_nil, or_false] at hp
      rcases hp with rfl | rfl | rfl
      · exact T9.1
      · exact T11.1
      · exact T12.1
  case p4 =>
    intro p hp
    simp only [T, Txt.Tb, List.mem_cons, List.not_mem_nil, or_false] at hp
    rcases hp with rfl | rfl | rfl
    · exact LamX.TabS.nil (hH (cc9, P9) (by simp))
    · exact LamX.TabS.nil (hH (cc11, P11) (by simp))
    · exact LamX.TabS.nil (hH (cc12, P12) (by simp))
end Lw
open PySem PySem.W PyProof.Rows
set_option maxRecDepth 100000 in
set_option maxHeartbeats 0 in
theorem PySem.Challenge.cw_sumsaid_k06_patterns_of_sets_holds : PySem.Challenge.rw_sumsaid_k06_patterns_of_sets.Holds := by
  w_on; o_law; k_head; (case hw => w_witness2)
  k_fill
  refine Ab.walk_tab (l := PySem.Challenge.rw_sumsaid_k06_patterns_of_sets) (n := 63) (k := 8) (x := "_law_script") rfl (by decide) rfl ⟨rfl, by decide, by decide⟩ (fun w h Y => PySem.W.km_in_of Y) ?F
  case F =>
    intro w mg mb mean fa h Y KX Tp G hmg
    refine' Lw.all_mk (P9 := 95) (P11 := 107) (P12 := 114) KX Tp G hmg ?a1 ?l1 ?c1 ?k1 ?a2 ?l2 ?c2 ?k2 ?a3 ?l3 ?c3 ?k3 ?a4 ?l4 ?c4 ?k4 ?a5 ?l5 ?c5 ?k5 ?a6 ?l6 ?c6 ?k6 ?a7 ?l7 ?c7 ?k7 ?a8 ?l8 ?c8 ?k8 ?a9 ?l9 ?c9 ?k9 ?a10 ?l10 ?c10 ?k10 ?a11 ?l11 ?c11 ?k11 ?a12 ?l12 ?c12 ?k12 ?a13 ?l13 ?c13 ?k13 ?a14 ?l14 ?c14 ?k14 ?a15 ?l15 ?c15 ?k15 ?a16 ?l16 ?c16 ?k16 ?a17 ?l17 ?c17 ?k17 ?a18 ?l18 ?c18 ?k18 ?a19 ?l19 ?c19 ?k19 ?a20 ?l20 ?c20 ?k20 ?a21 ?l21 ?c21 ?k21 ?u9 ?v9 ?n9 ?u11 ?v11 ?n11 ?u12 ?v12 ?n12 ?ne9_11 ?ne9_12 ?ne11_12 ?i_MOST_PERIOD ?i_MOST_MIDDLE ?z_abs ?z_bool ?z_enumerate ?z_int ?z_isinstance ?z_len ?z_list ?z_max ?z_min ?z_range ?z_tuple
    (case a1 => k_is); (case l1 => k_is); (case c1 => k_is); (case k1 => k_is); (case a2 => k_is); (case l2 => k_is); (case c2 => k_is); (case k2 => k_is); (case a3 => k_is); (case l3 => k_is); (case c3 => k_is); (case k3 => k_is); (case a4 => k_is); (case l4 => k_is); (case c4 => k_is); (case k4 => k_is); (case a5 => k_is); (case l5 => k_is); (case c5 => k_is); (case k5 => k_is); (case a6 => k_is); (case l6 => k_is); (case c6 => k_is); (case k6 => k_is); (case a7 => k_is); (case l7 => k_is); (case c7 => k_is); (case k7 => k_is); (case a8 => k_is); (case l8 => k_is); (case c8 => k_is); (case k8 => k_is); (case a9 => k_is); (case l9 => k_is); (case c9 => k_is); (case k9 => k_is); (case a10 => k_is); (case l10 => k_is); (case c10 => k_is); (case k10 => k_is); (case a11 => k_is); (case l11 => k_is); (case c11 => k_is); (case k11 => k_is); (case a12 => k_is); (case l12 => k_is); (case c12 => k_is); (case k12 => k_is); (case a13 => k_is); (case l13 => k_is); (case c13 => k_is); (case k13 => k_is); (case a14 => k_is); (case l14 => k_is); (case c14 => k_is); (case k14 => k_is); (case a15 => k_is); (case l15 => k_is); (case c15 => k_is); (case k15 => k_is); (case a16 => k_is); (case l16 => k_is); (case c16 => k_is); (case k16 => k_is); (case a17 => k_is); (case l17 => k_is); (case c17 => k_is); (case k17 => k_is); (case a18 => k_is); (case l18 => k_is); (case c18 => k_is); (case k18 => k_is); (case a19 => k_is); (case l19 => k_is); (case c19 => k_is); (case k19 => k_is); (case a20 => k_is); (case l20 => k_is); (case c20 => k_is); (case k20 => k_is); (case a21 => k_is); (case l21 => k_is); (case c21 => k_is); (case k21 => k_is); (case u9 => kernel_rfl); (case v9 => exact PySem.W.km_tabs_of Y _ (by decide)); (case n9 => kernel_rfl); (case u11 => kernel_rfl); (case v11 => exact PySem.W.km_tabs_of Y _ (by decide)); (case n11 => kernel_rfl); (case u12 => kernel_rfl); (case v12 => exact PySem.W.km_tabs_of Y _ (by decide)); (case n12 => kernel_rfl); (case ne9_11 => decide); (case ne9_12 => decide); (case ne11_12 => decide); (case i_MOST_PERIOD => k_is); (case i_MOST_MIDDLE => k_is); (case z_abs => k_is); (case z_bool => k_is); (case z_enumerate => k_is); (case z_int => k_is); (case z_isinstance => k_is); (case z_len => k_is); (case z_list => k_is); (case z_max => k_is); (case z_min => k_is); (case z_range => k_is); (case z_tuple => k_is)
