import PyProof.Rows.All
import Wide.All
import OpenK.AllK
import Wide.FinOn
import HandS.ForMost
import HandS.TupMul
import HandS.TupAny
import HandS.Conv
import HandS.IsInst
import HandS.Style
import HandS.Wide
import HandS.Evl
import HandS.Deep
import HandS.Exc
import HandS.Nested
import HandS.Lambda
import HandS.CallLocal
import HandS.EndBits
import HandS.EndTab
import HandS.SortInts
import HandS.AnyAll
import HandS.GenOver
import HandS.More
import HandS.Iter
import HandS.Text
import HandS.WordsExc
import PyProof.GenQ
import PyProof.ConsumeS
import PyProof.SumAnyB
import HandS.Rev
import HandS.RevTup
import PyProof.ListNew
import PyProof.EqAt
import PyProof.EqKinds
import PyProof.TupleCall
import PyProof.FString
import PyProof.FString4
import KE.KFromBytes
import KE.KSuper
import HandS.Base
import HandS.Call
import HandS.List
import HandS.Ends
import HandS.ExcInit
import HandS.ExcSuper
import HandS.ExcField
import HandS.ExcIs
import HandS.ExcOwn
import HandS.TryMany
import HandS.Comp
import PyProof.StrOps2
import PySem.Challenge.RW_sumsaid_k20_written_sayings_refused
set_option Elab.async false
set_option linter.all false
set_option maxRecDepth 100000
set_option maxHeartbeats 4000000
/-! Ab: the heap-free layer. Data are PyData; a def's body is read over an environment of data. -/
namespace Ab
open PySem PySem.Spec PyProof.Rows L2

/-! ### data without lists -/
mutual
def imm : PyData → Bool
  | .none => true
  | .bool _ => true
  | .int _ => true
  | .str _ => true
  | .tuple xs => immAll xs
  | .list _ => false
  | .dict _ => false
def immAll : List PyData → Bool
  | [] => true
  | x :: xs => imm x && immAll xs
end
theorem immAll_append : ∀ xs ys : List PyData, immAll (xs ++ ys) = (immAll xs && immAll ys)
  | [], ys => by simp [immAll]
  | x :: xs, ys => by simp [immAll, immAll_append xs ys, Bool.and_assoc]
theorem immAll_get {xs : List PyData} (h : immAll xs = true) : ∀ {i : Nat} {x : PyData}, xs[i]? = some x → imm x = true := by
  induction xs with
  | nil => intro i x e; simp at e
  | cons y ys ih =>
    intro i x e
    simp only [immAll, Bool.and_eq_true] at h
    cases i with
    | zero => simp at e; subst e; exact h.1
    | succ i => simp at e; exact ih h.2 e
theorem immAll_of {xs : List PyData} (h : ∀ x ∈ xs, imm x = true) : immAll xs = true := by
  induction xs with
  | nil => rfl
  | cons y ys ih =>
    simp only [immAll, Bool.and_eq_true]
    exact ⟨h y (by simp), ih fun x hx => h x (by simp [hx])⟩
theorem immAll_mem {xs : List PyData} (h : immAll xs = true) {x : PyData} (hx : x ∈ xs) : imm x = true := by
  obtain ⟨i, hi, e⟩ := List.getElem_of_mem hx
  exact immAll_get h (List.getElem?_eq_some_iff.mpr ⟨hi, e⟩)

/-- tuples stay -/
def TEx (H H' : Hp) : Prop := ∀ a xs, Rd H a (.tup xs) → Rd H' a (.tup xs)
/-- all stays but what stands at S -/
structure Fx (S : List Addr) (H H' : Hp) : Prop where
  keep : ∀ a o, a ∉ S → H a = some o → H' a = some o
  tup : TEx H H'
theorem Fx.refl {S : List Addr} (H : Hp) : Fx S H H := ⟨fun _ _ _ h => h, fun _ _ h => h⟩
theorem Fx.trans {S : List Addr} {H H1 H2 : Hp} (a : Fx S H H1) (b : Fx S H1 H2) : Fx S H H2 :=
  ⟨fun x o n h => b.keep x o n (a.keep x o n h), fun x xs h => b.tup x xs (a.tup x xs h)⟩
theorem Fx.mono {S T : List Addr} {H H' : Hp} (a : Fx S H H') (h : ∀ x ∈ S, x ∈ T) : Fx T H H' := ⟨fun x o n e => a.keep x o (fun z => n (h x z)) e, a.tup⟩
theorem Fx.nil {S : List Addr} {H H' : Hp} (a : Fx [] H H') : Fx S H H' := a.mono fun _ h => by simp at h
theorem rd_keep {S : List Addr} {H H' : Hp} {a : Addr} {u : HO} (e : Fx S H H') (n : a ∉ S) (h : Rd H a u) : Rd H' a u := by
  rcases h with h | ⟨o, h⟩
  · exact .inl (e.keep _ _ n h)
  · exact .inr ⟨o, e.keep _ _ n h⟩
theorem sqL_keep {K : PySem.W.Frag} {S : List Addr} {H H' : Hp} {a : Addr} {xs : List V} (e : Fx S H H') (n : a ∉ S) (h : SqL K H a xs) : SqL K H' a xs := by
  rcases h with h | h
  · exact .inl (rd_keep e n h)
  · exact .inr h
theorem sqT_keep {K : PySem.W.Frag} {H H' : Hp} {a : Addr} {xs : List V} (e : TEx H H') (h : SqT K H a xs) : SqT K H' a xs := by
  rcases h with h | h
  · exact .inl (e _ _ h)
  · exact .inr h
theorem Fx.free {S : List Addr} {H H' : Hp} {p : Addr} (e : Fx S H H') (n : p ∉ S) (h : H' p = none) : H p = none := by
  cases h1 : H p with
  | none => rfl
  | some o => rw [e.keep p o n h1] at h; cases h
theorem Fx.new {S : List Addr} {H : Hp} {p : Addr} {o : HO} (h : H p = none) : Fx S H (upd H p o) :=
  ⟨fun a u _ e => by rw [upd_ne (ne_of_none e h)]; exact e, fun a xs r => by
    rcases r with r | ⟨u, r⟩
    · exact .inl (by rw [upd_ne (ne_of_none r h)]; exact r)
    · exact .inr ⟨u, by rw [upd_ne (ne_of_none r h)]; exact r⟩⟩
/-- a list is changed -/
theorem tex_lst {H : Hp} {p : Addr} {xs : List V} {o : HO} (h : H p = some (.lst xs)) : TEx H (upd H p o) := fun a ys r => by
  rcases r with r | ⟨u, r⟩
  · exact .inl (by rw [upd_ne (ne_of r h (by intro z; cases z))]; exact r)
  · exact .inr ⟨u, by rw [upd_ne (ne_of r h (by intro z; cases z))]; exact r⟩

mutual
theorem dp_mono {K : PySem.W.Frag} {H H' : Hp} (e : TEx H H') : ∀ (d : PyData) (v : V), imm d = true → Dp K H v d → Dp K H' v d
  | .none, _, _, h => by cases h; exact .non
  | .bool _, _, _, h => by cases h; exact .bl _
  | .int _, _, _, h => by cases h; exact .int _
  | .str _, _, _, h => by cases h; exact .str _
  | .tuple xs, _, hi, h => by
    cases h with
    | tup hs ha => exact .tup (sqT_keep e hs) (dpAll_mono e xs _ (by simpa [imm] using hi) ha)
  | .list _, _, hi, _ => by simp [imm] at hi
  | .dict _, _, hi, _ => by simp [imm] at hi
theorem dpAll_mono {K : PySem.W.Frag} {H H' : Hp} (e : TEx H H') : ∀ (ds : List PyData) (vs : List V), immAll ds = true → DpAll K H vs ds → DpAll K H' vs ds
  | [], _, _, h => by cases h; exact .nil
  | d :: ds, _, hi, h => by
    simp only [immAll, Bool.and_eq_true] at hi
    cases h with
    | cons h1 h2 => exact .cons (dp_mono e d _ hi.1 h1) (dpAll_mono e ds _ hi.2 h2)
end
theorem dpAll_length {K : PySem.W.Frag} {H : Hp} : ∀ {vs : List V} {ds : List PyData}, DpAll K H vs ds → vs.length = ds.length
  | _, _, .nil => rfl
  | _, _, .cons _ t => by rw [List.length_cons, List.length_cons, dpAll_length t]
theorem dpAll_append {K : PySem.W.Frag} {H : Hp} : ∀ {vs ws : List V} {ds es : List PyData}, DpAll K H vs ds → DpAll K H ws es → DpAll K H (vs ++ ws) (ds ++ es)
  | _, _, _, _, .nil, s => s
  | _, _, _, _, .cons a t, s => .cons a (dpAll_append t s)
theorem dpAll_get {K : PySem.W.Frag} {H : Hp} : ∀ {vs : List V} {ds : List PyData} {i : Nat} {d : PyData}, DpAll K H vs ds → ds[i]? = some d → ∃ v, vs[i]? = some v ∧ Dp K H v d
  | _, _, _, _, .nil, e => by simp at e
  | _, _, 0, _, .cons a t, e => by simp at e; subst e; exact ⟨_, rfl, a⟩
  | _, _, i + 1, d, .cons a t, e => by
    obtain ⟨v, h1, h2⟩ := dpAll_get (i := i) (d := d) t (by simpa using e)
    exact ⟨v, by simpa using h1, h2⟩
theorem dpAll_getV {K : PySem.W.Frag} {H : Hp} : ∀ {vs : List V} {ds : List PyData} {i : Nat} {v : V}, DpAll K H vs ds → vs[i]? = some v → ∃ d, ds[i]? = some d ∧ Dp K H v d
  | _, _, _, _, .nil, e => by simp at e
  | _, _, 0, _, .cons a t, e => by simp at e; subst e; exact ⟨_, rfl, a⟩
  | _, _, i + 1, d, .cons a t, e => by
    obtain ⟨v, h1, h2⟩ := dpAll_getV (i := i) t (by simpa using e)
    exact ⟨v, by simpa using h1, h2⟩
theorem dpAll_take {K : PySem.W.Frag} {H : Hp} : ∀ {vs : List V} {ds : List PyData} (n : Nat), DpAll K H vs ds → DpAll K H (vs.take n) (ds.take n)
  | _, _, 0, _ => .nil
  | _, _, _ + 1, .nil => .nil
  | _, _, n + 1, .cons a t => .cons a (dpAll_take n t)
theorem dpAll_drop {K : PySem.W.Frag} {H : Hp} : ∀ {vs : List V} {ds : List PyData} (n : Nat), DpAll K H vs ds → DpAll K H (vs.drop n) (ds.drop n)
  | _, _, 0, h => h
  | _, _, _ + 1, .nil => .nil
  | _, _, n + 1, .cons _ t => dpAll_drop n t
theorem dpAll_set {K : PySem.W.Frag} {H : Hp} {v : V} {d : PyData} (h : Dp K H v d) : ∀ {vs : List V} {ds : List PyData} (n : Nat), DpAll K H vs ds → DpAll K H (vs.set n v) (ds.set n d)
  | _, _, 0, .nil => .nil
  | _, _, _ + 1, .nil => .nil
  | _, _, 0, .cons _ t => .cons h t
  | _, _, n + 1, .cons a t => .cons a (dpAll_set h n t)
theorem immAll_take {xs : List PyData} (n : Nat) (h : immAll xs = true) : immAll (xs.take n) = true := immAll_of fun x hx => immAll_mem h (List.mem_of_mem_take hx)
theorem immAll_drop {xs : List PyData} (n : Nat) (h : immAll xs = true) : immAll (xs.drop n) = true := immAll_of fun x hx => immAll_mem h (List.mem_of_mem_drop hx)
theorem immAll_set {xs : List PyData} (n : Nat) {d : PyData} (hd : imm d = true) (h : immAll xs = true) : immAll (xs.set n d) = true := immAll_of fun x hx => by
  rcases List.mem_or_eq_of_mem_set hx with z | z
  · exact immAll_mem h z
  · rw [z]; exact hd

/-! ### contexts, environments -/
/-- S: lists that callers own and that may change here, J what stands of them; H0: the heap at the entry -/
structure Ctx where
  K : PySem.W.Frag
  S : List Addr
  J : Hp → Prop
  H0 : Hp
structure Ctx.Ok (c : Ctx) : Prop where
  j0 : c.J c.H0
  sj : ∀ H, c.J H → ∀ s ∈ c.S, H s ≠ none
  jst : ∀ H H', c.J H → (∀ a o, (c.H0 a ≠ none ∨ ∀ xs, o ≠ .lst xs) → H a = some o → H' a = some o) → c.J H'

/-- what a slot holds: data; a list of the entry heap that is read; an own list; a thing by what is true of it -/
inductive G where
  | dat (d : PyData)
  | vw (ds : List PyData)
  | own (ds : List PyData)
  | obj (p : V → Prop)
/-- what an expression gives: data; a new list; a list of the entry heap that is read; an own list that is read; a thing -/
inductive RV where
  | dat (d : PyData)
  | new (ds : List PyData)
  | vw (ds : List PyData)
  | al (ds : List PyData)
  | obj (p : V → Prop)
abbrev Gam := List (Option G)
/-- a slot read -/
def G.rv : G → RV
  | .dat d => .dat d
  | .vw ds => .vw ds
  | .own ds => .al ds
  | .obj p => .obj p

def GR (c : Ctx) (H : Hp) (v : V) : G → Prop
  | .dat d => Dp c.K H v d ∧ imm d = true
  | .vw ds => ∃ a vs, v = .ref a ∧ a ∉ c.S ∧ SqL c.K c.H0 a vs ∧ DpAll c.K H vs ds ∧ immAll ds = true
  | .own ds => ∃ a vs, v = .ref a ∧ c.H0 a = none ∧ a ∉ c.S ∧ H a = some (.lst vs) ∧ DpAll c.K H vs ds ∧ immAll ds = true
  | .obj p => p v
def RR (c : Ctx) (H H' : Hp) (v : V) : RV → Prop
  | .dat d => Dp c.K H' v d ∧ imm d = true
  | .new ds => ∃ a vs, v = .ref a ∧ H a = none ∧ a ∉ c.S ∧ H' a = some (.lst vs) ∧ DpAll c.K H' vs ds ∧ immAll ds = true
  | .vw ds => ∃ a vs, v = .ref a ∧ a ∉ c.S ∧ SqL c.K c.H0 a vs ∧ SqL c.K H' a vs ∧ DpAll c.K H' vs ds ∧ immAll ds = true
  | .al ds => ∃ a vs, v = .ref a ∧ a ∉ c.S ∧ SqL c.K H' a vs ∧ DpAll c.K H' vs ds ∧ immAll ds = true
  | .obj p => p v
theorem RR.mono {c : Ctx} {H H1 H2 : Hp} {v : V} {r : RV} (h : RR c H H1 v r) (e : Fx c.S H1 H2) : RR c H H2 v r := by
  cases r with
  | dat d => exact ⟨dp_mono e.tup d v h.2 h.1, h.2⟩
  | new ds =>
    obtain ⟨a, vs, rfl, h1, h2, h3, h4, h5⟩ := h
    exact ⟨a, vs, rfl, h1, h2, e.keep _ _ h2 h3, dpAll_mono e.tup ds vs h5 h4, h5⟩
  | vw ds =>
    obtain ⟨a, vs, rfl, h2, h0, h3, h4, h5⟩ := h
    exact ⟨a, vs, rfl, h2, h0, sqL_keep e h2 h3, dpAll_mono e.tup ds vs h5 h4, h5⟩
  | al ds =>
    obtain ⟨a, vs, rfl, h2, h3, h4, h5⟩ := h
    exact ⟨a, vs, rfl, h2, sqL_keep e h2 h3, dpAll_mono e.tup ds vs h5 h4, h5⟩
  | obj p => exact h
/-- new from an earlier heap on -/
theorem RR.back {c : Ctx} {H0 H H1 : Hp} {v : V} {r : RV} (h : RR c H H1 v r) (e : Fx c.S H0 H) : RR c H0 H1 v r := by
  cases r with
  | new ds =>
    obtain ⟨a, vs, rfl, h1, h2, h3, h4, h5⟩ := h
    exact ⟨a, vs, rfl, e.free h2 h1, h2, h3, h4, h5⟩
  | dat d => exact h
  | vw ds => exact h
  | al ds => exact h
  | obj p => exact h

structure At (c : Ctx) (σ : L2.St) (H : Hp) (Γ : Gam) : Prop where
  ok : c.Ok
  len : σ.length = Γ.length
  slot : ∀ (i : Nat) g, Γ[i]? = some (some g) → ∃ v, σ[i]? = some (some v) ∧ GR c H v g
  sep : ∀ (i j : Nat) v ds es, Γ[i]? = some (some (.own ds)) → Γ[j]? = some (some (.own es)) → σ[i]? = some (some v) → σ[j]? = some (some v) → i = j
  kp : Fx c.S c.H0 H
  J : c.J H
theorem At.fresh {c : Ctx} {σ : L2.St} {H : Hp} {Γ : Gam} (a : At c σ H Γ) {p : Addr} (h : H p = none) : p ∉ c.S ∧ c.H0 p = none := by
  have n : p ∉ c.S := fun z => a.ok.sj H a.J p z h
  exact ⟨n, a.kp.free n h⟩
/-- the heap grows -/
theorem At.grow {c : Ctx} {σ : L2.St} {H H' : Hp} {Γ : Gam} (a : At c σ H Γ) (e : Fx c.S H H') (j : c.J H') : At c σ H' Γ := by
  refine ⟨a.ok, a.len, fun i g h => ?_, a.sep, a.kp.trans e, j⟩
  obtain ⟨v, hv, r⟩ := a.slot i g h
  refine ⟨v, hv, ?_⟩
  cases g with
  | dat d => exact ⟨dp_mono e.tup d v r.2 r.1, r.2⟩
  | vw ds =>
    obtain ⟨x, vs, rfl, h1, h2, h3, h4⟩ := r
    exact ⟨x, vs, rfl, h1, h2, dpAll_mono e.tup ds vs h4 h3, h4⟩
  | own ds =>
    obtain ⟨x, vs, rfl, h1, h2, h3, h4, h5⟩ := r
    exact ⟨x, vs, rfl, h1, h2, e.keep _ _ h2 h3, dpAll_mono e.tup ds vs h5 h4, h5⟩
  | obj p => exact r
theorem At.ext {c : Ctx} {σ : L2.St} {H H' : Hp} {Γ : Gam} (a : At c σ H Γ) (e : Fx [] H H') : At c σ H' Γ :=
  a.grow e.nil (a.ok.jst H H' a.J fun x o _ h => e.keep x o (by simp) h)
theorem At.new {c : Ctx} {σ : L2.St} {H : Hp} {Γ : Gam} (a : At c σ H Γ) {p : Addr} {o : HO} (h : H p = none) : At c σ (upd H p o) Γ := a.ext (Fx.new h)

/-! ### the transformers and what they mean -/
abbrev XE := Gam → (RV → Prop) → Prop
abbrev XT := Gam → (Bool → Prop) → Prop
abbrev XA := Gam → (List RV → Prop) → Prop
structure AD where
  nx : Gam → Prop
  bk : Gam → Prop
  ct : Gam → Prop
  rt : RV → Prop
abbrev XS := AD → Gam → Prop

def gE (c : Ctx) (A : XE) : TE := fun σ H Q => ∃ Γ P, At c σ H Γ ∧ A Γ P ∧ ∀ v H' r, Fx c.S H H' → At c σ H' Γ → RR c H H' v r → P r → Q v H'
def gT (c : Ctx) (A : XT) : TT := fun σ H Q => ∃ Γ P, At c σ H Γ ∧ A Γ P ∧ ∀ b H', Fx c.S H H' → At c σ H' Γ → P b → Q b H'
abbrev RRs (c : Ctx) (H H' : Hp) : List V → List RV → Prop := Paired (RR c H H')
theorem RRs.mono {c : Ctx} {H H1 H2 : Hp} {vs : List V} {rs : List RV} (h : RRs c H H1 vs rs) (e : Fx c.S H1 H2) : RRs c H H2 vs rs := Paired.mapP h fun _ _ r => r.mono e
theorem RRs.back {c : Ctx} {H0 H H1 : Hp} {vs : List V} {rs : List RV} (h : RRs c H H1 vs rs) (e : Fx c.S H0 H) : RRs c H0 H1 vs rs := Paired.mapP h fun _ _ r => r.back e
def gA (c : Ctx) (A : XA) : TA := fun σ H Q => ∃ Γ P, At c σ H Γ ∧ A Γ P ∧ ∀ vs H' rs, Fx c.S H H' → At c σ H' Γ → RRs c H H' vs rs → P rs → Q vs H'
/-- the ends of a statement -/
structure Ends2 (c : Ctx) (D : AD) (E : Ends) : Prop where
  nx : ∀ Γ σ H, D.nx Γ → At c σ H Γ → E.nx σ H
  bk : ∀ Γ σ H, D.bk Γ → At c σ H Γ → E.bk σ H
  ct : ∀ Γ σ H, D.ct Γ → At c σ H Γ → E.ct σ H
  rt : ∀ v H r, Fx c.S c.H0 H → c.J H → RR c c.H0 H v r → D.rt r → E.rt v H
def gS (c : Ctx) (A : XS) : TS := fun E σ H => ∃ Γ D, At c σ H Γ ∧ A D Γ ∧ Ends2 c D E

structure PEa (X : Cx) (c : Ctx) (e : Expr) (A : XE) : Prop where
  pe : PE X e (gE c A)
structure PTa (X : Cx) (c : Ctx) (e : Expr) (A : XT) : Prop where
  pt : PT X e (gT c A)
structure PWa (X : Cx) (c : Ctx) (e : Expr) (A : XT) : Prop where
  pw : PW X e (gT c A)
structure PAa (X : Cx) (c : Ctx) (es : List Expr) (A : XA) : Prop where
  pa : PA X es (gA c A)
structure PSa (X : Cx) (c : Ctx) (s : Stmt) (A : XS) : Prop where
  ps : PS X s (gS c A)
structure PSsa (X : Cx) (c : Ctx) (s : List Stmt) (A : XS) : Prop where
  ps : PSs X s (gS c A)

section
variable {X : Cx} {c : Ctx}
theorem pe_imp {e : Expr} {t u : TE} (h : PE X e t) (w : ∀ σ H Q, u σ H Q → t σ H Q) : PE X e u := ⟨fun pins s σ H Q I hu => h.run pins s σ H Q I (w _ _ _ hu)⟩
theorem pt_imp {e : Expr} {t u : TT} (h : PT X e t) (w : ∀ σ H Q, u σ H Q → t σ H Q) : PT X e u := ⟨fun pins s σ H Q I hu => h.run pins s σ H Q I (w _ _ _ hu)⟩
theorem pw_imp {e : Expr} {t u : TT} (h : PW X e t) (w : ∀ σ H Q, u σ H Q → t σ H Q) : PW X e u := ⟨fun whole pins s σ H Q I hu => h.run whole pins s σ H Q I (w _ _ _ hu)⟩
theorem pa_imp {e : List Expr} {t u : TA} (h : PA X e t) (w : ∀ σ H Q, u σ H Q → t σ H Q) : PA X e u := ⟨fun pos pins s σ H Q I hu => h.run pos pins s σ H Q I (w _ _ _ hu)⟩
theorem ps_imp {e : Stmt} {t u : TS} (h : PS X e t) (w : ∀ D σ H, u D σ H → t D σ H) : PS X e u := ⟨fun pins s σ H D I hu => h.run pins s σ H D I (w _ _ _ hu)⟩
theorem pss_imp {e : List Stmt} {t u : TS} (h : PSs X e t) (w : ∀ D σ H, u D σ H → t D σ H) : PSs X e u := ⟨fun pins s σ H D I hu => h.run pins s σ H D I (w _ _ _ hu)⟩
end
end Ab

namespace Ab
open PySem PySem.Spec PyProof.Rows L2

/-! ### expressions -/
/-- a value read off: what an operator sees -/
def RO (c : Ctx) (H : Hp) (v : V) (r : RV) : Prop := ∃ Hs, RR c Hs H v r
theorem RO.mono {c : Ctx} {H H' : Hp} {v : V} {r : RV} (h : RO c H v r) (e : Fx c.S H H') : RO c H' v r := let ⟨Hs, q⟩ := h; ⟨Hs, q.mono e⟩
theorem RR.ro {c : Ctx} {H H' : Hp} {v : V} {r : RV} (h : RR c H H' v r) : RO c H' v r := ⟨_, h⟩
theorem RO.dat {c : Ctx} {H : Hp} {v : V} {d : PyData} (h : RO c H v (.dat d)) : Dp c.K H v d ∧ imm d = true := let ⟨_, q⟩ := h; q
/-- a list that is read -/
def RV.lst? : RV → Option (List PyData)
  | .new ds => some ds
  | .vw ds => some ds
  | .al ds => some ds
  | _ => none
theorem RO.lst {c : Ctx} {H : Hp} {v : V} {r : RV} {ds : List PyData} (h : RO c H v r) (e : r.lst? = some ds) : ∃ a vs, v = .ref a ∧ a ∉ c.S ∧ SqL c.K H a vs ∧ DpAll c.K H vs ds ∧ immAll ds = true := by
  obtain ⟨Hs, h⟩ := h
  cases r with
  | new es =>
    obtain ⟨a, vs, rfl, h1, h2, h3, h4, h5⟩ := h
    cases e
    exact ⟨a, vs, rfl, h2, SqL.of h3, h4, h5⟩
  | vw es =>
    obtain ⟨a, vs, rfl, h2, _, h3, h4, h5⟩ := h
    cases e
    exact ⟨a, vs, rfl, h2, h3, h4, h5⟩
  | al es =>
    obtain ⟨a, vs, rfl, h2, h3, h4, h5⟩ := h
    cases e
    exact ⟨a, vs, rfl, h2, h3, h4, h5⟩
  | dat d => cases e
  | obj p => cases e
theorem RO.tup {c : Ctx} {H : Hp} {v : V} {ds : List PyData} (h : RO c H v (.dat (.tuple ds))) : ∃ a vs, v = .ref a ∧ SqT c.K H a vs ∧ DpAll c.K H vs ds ∧ immAll ds = true := by
  obtain ⟨h1, h2⟩ := h.dat
  cases h1 with
  | tup a b => exact ⟨_, _, rfl, a, b, by simpa [imm] using h2⟩
theorem RO.int {c : Ctx} {H : Hp} {v : V} {i : Int} (h : RO c H v (.dat (.int i))) : v = .int i := by
  obtain ⟨h1, _⟩ := h.dat
  cases h1; rfl
theorem RO.bl {c : Ctx} {H : Hp} {v : V} {i : Bool} (h : RO c H v (.dat (.bool i))) : v = .bl i := by
  obtain ⟨h1, _⟩ := h.dat
  cases h1; rfl
theorem RO.str {c : Ctx} {H : Hp} {v : V} {i : Str} (h : RO c H v (.dat (.str i))) : v = .str i := by
  obtain ⟨h1, _⟩ := h.dat
  cases h1; rfl
theorem RO.non {c : Ctx} {H : Hp} {v : V} (h : RO c H v (.dat .none)) : v = .non := by
  obtain ⟨h1, _⟩ := h.dat
  cases h1; rfl
theorem RO.dp {c : Ctx} {H : Hp} {v : V} {r : RV} (h : RO c H v r) : (∀ d, r = .dat d → Dp c.K H v d) ∧ ∀ ds, r.lst? = some ds → Dp c.K H v (.list ds) := by
  refine ⟨fun d e => by subst e; exact h.dat.1, fun ds e => ?_⟩
  obtain ⟨a, vs, rfl, _, h2, h3, _⟩ := h.lst e
  exact .lst h2 h3
theorem rr_dat {c : Ctx} {H H' : Hp} {v : V} {d : PyData} (h : Dp c.K H' v d ∧ imm d = true) : RR c H H' v (.dat d) := h
theorem rr_int {c : Ctx} {H H' : Hp} (i : Int) : RR c H H' (.int i) (.dat (.int i)) := ⟨.int i, rfl⟩
theorem rr_bl {c : Ctx} {H H' : Hp} (i : Bool) : RR c H H' (.bl i) (.dat (.bool i)) := ⟨.bl i, rfl⟩
theorem rr_str {c : Ctx} {H H' : Hp} (i : Str) : RR c H H' (.str i) (.dat (.str i)) := ⟨.str i, rfl⟩
theorem rr_non {c : Ctx} {H H' : Hp} : RR c H H' .non (.dat .none) := ⟨.non, rfl⟩
theorem rr_tup {c : Ctx} {H H' : Hp} {q : Addr} {vs : List V} {ds : List PyData} (h : H' q = some (.tup vs)) (d : DpAll c.K H' vs ds) (i : immAll ds = true) : RR c H H' (.ref q) (.dat (.tuple ds)) := ⟨.tup (SqT.of h) d, by simpa [imm] using i⟩
theorem rr_new {c : Ctx} {H H' : Hp} {q : Addr} {vs : List V} {ds : List PyData} (hq : H q = none) (n : q ∉ c.S) (h : H' q = some (.lst vs)) (d : DpAll c.K H' vs ds) (i : immAll ds = true) : RR c H H' (.ref q) (.new ds) := ⟨q, vs, rfl, hq, n, h, d, i⟩
/-- as data (for ==) -/
def RV.dt? : RV → Option PyData
  | .dat d => some d
  | .new ds => some (.list ds)
  | .vw ds => some (.list ds)
  | .al ds => some (.list ds)
  | .obj _ => none
theorem RO.dt {c : Ctx} {H : Hp} {v : V} {r : RV} {d : PyData} (h : RO c H v r) (e : r.dt? = some d) : Dp c.K H v d := by
  cases r with
  | dat x => cases e; exact h.dat.1
  | new ds => cases e; exact h.dp.2 ds rfl
  | vw ds => cases e; exact h.dp.2 ds rfl
  | al ds => cases e; exact h.dp.2 ds rfl
  | obj p => cases e

section
variable {X : Cx} {c : Ctx} {e a b : Expr} {A B : XE} {pos : Pos}

def aVar (i : Nat) : XE := fun Γ P => ∃ g, Γ[i]? = some (some g) ∧ P g.rv
theorem gr_rr {H : Hp} {v : V} {g : G} {σ : L2.St} {Γ : Gam} (at_ : At c σ H Γ) (h : GR c H v g) : RR c H H v g.rv := by
  cases g with
  | dat d => exact h
  | vw ds =>
    obtain ⟨x, vs, rfl, h1, h2, h3, h4⟩ := h
    exact ⟨x, vs, rfl, h1, h2, sqL_keep at_.kp h1 h2, h3, h4⟩
  | own ds =>
    obtain ⟨x, vs, rfl, h1, h2, h3, h4, h5⟩ := h
    exact ⟨x, vs, rfl, h2, SqL.of h3, h4, h5⟩
  | obj p => exact h
theorem ae_var (i : Nat) {x : Str} (hN : X.N[i]? = some x := by rfl) (hv : Vis X.env.scope x := by first | exact Or.inl rfl | exact Or.inr (Or.inl rfl) | exact Or.inr (Or.inr rfl)) (hd : (x == ("__debug__" : Str)) = false := by decide)
    (hcd : (x == ("__classdict__" : Str)) = false := by decide) : PEa X c (.Name x pos) (aVar i) := ⟨pe_imp (pe_var hN hv hd hcd) fun σ H Q ⟨Γ, P, at_, ⟨g, hg, p⟩, k⟩ => by
  obtain ⟨v, hv, r⟩ := at_.slot i g hg
  exact ⟨v, hv, k v H g.rv (Fx.refl H) at_ (gr_rr at_ r) p⟩⟩

def aC (d : PyData) : XE := fun _ P => P (.dat d)
theorem ae_int {i : Int} {j : Nat} : PEa X c (.Constant (.int i) j pos) (aC (.int i)) := ⟨pe_imp pe_int fun σ H Q ⟨Γ, P, at_, p, k⟩ => k (.int i) H _ (Fx.refl H) at_ (rr_int i) p⟩
theorem ae_bl {i : Bool} {j : Nat} : PEa X c (.Constant (.bool i) j pos) (aC (.bool i)) := ⟨pe_imp pe_bl fun σ H Q ⟨Γ, P, at_, p, k⟩ => k (.bl i) H _ (Fx.refl H) at_ (rr_bl i) p⟩
theorem ae_non {j : Nat} : PEa X c (.Constant .none j pos) (aC .none) := ⟨pe_imp pe_non fun σ H Q ⟨Γ, P, at_, p, k⟩ => k .non H _ (Fx.refl H) at_ rr_non p⟩
theorem ae_str {i : Str} {j : Nat} : PEa X c (.Constant (.str i) j pos) (aC (.str i)) := ⟨pe_imp pe_str fun σ H Q ⟨Γ, P, at_, p, k⟩ => k (.str i) H _ (Fx.refl H) at_ (rr_str i) p⟩
/-- a name of the module that holds an int, a text .. -/
theorem ae_glob {x : Str} {d : PyData} {v : V} {u : Value} (hg : Gl X x) (hm : X.mg x = some u) (r : RelV v u) (hd : ∀ H, Dp c.K H v d ∧ imm d = true) (hdb : (x == ("__debug__" : Str)) = false := by decide) : PEa X c (.Name x pos) (aC d) :=
  ⟨pe_imp (pe_glob hg hm r hdb) fun σ H Q ⟨Γ, P, at_, p, k⟩ => k v H _ (Fx.refl H) at_ (rr_dat (hd H)) p⟩

/-! operators on values -/
abbrev XO := RV → RV → (RV → Prop) → Prop
def gO (c : Ctx) (o : XO) : R2 := fun x y H Q => ∃ rx ry P, (∃ σ Γ, At c σ H Γ) ∧ RO c H x rx ∧ RO c H y ry ∧ o rx ry P ∧ ∀ z H' r, Fx [] H H' → RR c H H' z r → P r → Q z H'
theorem opR_imp {f : Value → Value → Sem Value} {r r' : R2} (h : OpR X f r) (w : ∀ x y H Q, r' x y H Q → r x y H Q) : OpR X f r' := fun pins s σ H x y v u Q I rx ry q => h pins s σ H x y v u Q I rx ry (w _ _ _ _ q)
theorem opR_or {f : Value → Value → Sem Value} {r r' : R2} (h : OpR X f r) (h' : OpR X f r') : OpR X f (fun x y H Q => r x y H Q ∨ r' x y H Q) := fun pins s σ H x y v u Q I rx ry q => by
  rcases q with q | q
  · exact h pins s σ H x y v u Q I rx ry q
  · exact h' pins s σ H x y v u Q I rx ry q
theorem gO_or {o o' : XO} (h : ∀ {f : Value → Value → Sem Value}, True) : gO c (fun x y P => o x y P ∨ o' x y P) = fun x y H Q => gO c o x y H Q ∨ gO c o' x y H Q := by
  funext x y H Q
  apply propext
  constructor
  · rintro ⟨rx, ry, P, a, b, d, e | e, k⟩
    · exact .inl ⟨rx, ry, P, a, b, d, e, k⟩
    · exact .inr ⟨rx, ry, P, a, b, d, e, k⟩
  · rintro (⟨rx, ry, P, a, b, d, e, k⟩ | ⟨rx, ry, P, a, b, d, e, k⟩)
    · exact ⟨rx, ry, P, a, b, d, .inl e, k⟩
    · exact ⟨rx, ry, P, a, b, d, .inr e, k⟩
structure OpA (X : Cx) (c : Ctx) (f : Value → Value → Sem Value) (o : XO) : Prop where
  op : OpR X f (gO c o)
theorem OpA.or {f : Value → Value → Sem Value} {o o' : XO} (h : OpA X c f o) (h' : OpA X c f o') : OpA X c f (fun x y P => o x y P ∨ o' x y P) := ⟨by
  rw [gO_or (o := o) (o' := o') fun {_} => True.intro]
  exact opR_or h.op h'.op⟩
def aOp (o : XO) (A B : XE) : XE := fun Γ P => A Γ fun x => B Γ fun y => o x y P
theorem two_imp {r : R2} {o : XO} {ta tb : TE} (hr : ∀ x y H Q, gO c o x y H Q → r x y H Q) (ha : ∀ σ H Q, gE c A σ H Q → ta σ H Q) (hb : ∀ σ H Q, gE c B σ H Q → tb σ H Q) (σ : L2.St) (H : Hp) (Q : VK) (h : gE c (aOp o A B) σ H Q) : tOp r ta tb σ H Q := by
  obtain ⟨Γ, P, at_, p, k⟩ := h
  refine ha _ _ _ ⟨Γ, _, at_, p, fun v H1 rx f1 at1 r1 p1 => ?_⟩
  refine hb _ _ _ ⟨Γ, _, at1, p1, fun u H2 ry f2 at2 r2 p2 => ?_⟩
  refine hr _ _ _ _ ⟨rx, ry, P, ⟨_, _, at2⟩, (r1.mono f2).ro, r2.ro, p2, fun z H3 r f3 r3 p3 => ?_⟩
  exact k z H3 r ((f1.trans f2).trans f3.nil) (at2.ext f3) (r3.back (f1.trans f2)) p3
theorem ae_op {op : Operator} {o : XO} (ho : OpA X c (binaryOp op) o) (ha : PEa X c a A) (hb : PEa X c b B) : PEa X c (.BinOp a op b pos) (aOp o A B) :=
  ⟨pe_imp (pe_op ho.op ha.pe hb.pe) (two_imp (fun _ _ _ _ h => h) (fun _ _ _ h => h) (fun _ _ _ h => h))⟩
theorem ae_cmp {op : CmpOp} {o : XO} (ho : OpA X c (compareOp op) o) (ha : PEa X c a A) (hb : PEa X c b B) (hm : behindInMarks op b = false := by first | exact nomark _ | rfl | with_unfolding_all rfl) : PEa X c (.Compare a [op] [b] pos) (aOp o A B) :=
  ⟨pe_imp (pe_cmpR ho.op ha.pe hb.pe hm) (two_imp (fun _ _ _ _ h => h) (fun _ _ _ h => h) (fun _ _ _ h => h))⟩
/-- a value that is True or False, as a test -/
def aTst (A : XE) : XT := fun Γ P => A Γ fun r => ∃ b, r = .dat (.bool b) ∧ P b
theorem tst_imp {t : TE} (ha : ∀ σ H Q, gE c A σ H Q → t σ H Q) (σ : L2.St) (H : Hp) (Q : Bool → Hp → Prop) (h : gT c (aTst A) σ H Q) : tTest t σ H Q := by
  obtain ⟨Γ, P, at_, p, k⟩ := h
  refine ha _ _ _ ⟨Γ, _, at_, p, fun v H1 rx f1 at1 r1 p1 => ?_⟩
  obtain ⟨b, rfl, q⟩ := p1
  exact ⟨b, r1.ro.bl, k b H1 f1 at1 q⟩
theorem at_cmp {op : CmpOp} {o : XO} (ho : OpA X c (compareOp op) o) (ha : PEa X c a A) (hb : PEa X c b B) (hm : behindInMarks op b = false := by first | exact nomark _ | rfl | with_unfolding_all rfl) : PTa X c (.Compare a [op] [b] pos) (aTst (aOp o A B)) :=
  ⟨pt_imp (pt_cmpR ho.op ha.pe hb.pe hm) (tst_imp (two_imp (fun _ _ _ _ h => h) (fun _ _ _ h => h) (fun _ _ _ h => h)))⟩
/-- a < b < c -/
def aChain (o o' : XO) (A B C : XE) : XE := fun Γ P => A Γ fun x => B Γ fun y => o x y fun z => ∃ k, z = .dat (.bool k) ∧ if k = true then C Γ fun w => o' y w P else P (.dat (.bool false))
theorem chain_imp {r r' : R2} {o o' : XO} {C : XE} {ta tb tc : TE} (hr : ∀ x y H Q, gO c o x y H Q → r x y H Q) (hr' : ∀ x y H Q, gO c o' x y H Q → r' x y H Q) (ha : ∀ σ H Q, gE c A σ H Q → ta σ H Q) (hb : ∀ σ H Q, gE c B σ H Q → tb σ H Q) (hc : ∀ σ H Q, gE c C σ H Q → tc σ H Q)
    (σ : L2.St) (H : Hp) (Q : VK) (h : gE c (aChain o o' A B C) σ H Q) : tChain r r' ta tb tc σ H Q := by
  obtain ⟨Γ, P, at_, p, k⟩ := h
  refine ha _ _ _ ⟨Γ, _, at_, p, fun v H1 rx f1 at1 r1 p1 => ?_⟩
  refine hb _ _ _ ⟨Γ, _, at1, p1, fun u H2 ry f2 at2 r2 p2 => ?_⟩
  refine hr _ _ _ _ ⟨rx, ry, _, ⟨_, _, at2⟩, (r1.mono f2).ro, r2.ro, p2, fun z H3 rz f3 r3 p3 => ?_⟩
  obtain ⟨b, rfl, q⟩ := p3
  have at3 := at2.ext f3
  have f123 := (f1.trans f2).trans (f3.nil (S := c.S))
  refine ⟨b, r3.ro.bl, ?_⟩
  cases b with
  | false =>
    rw [if_neg Bool.false_ne_true] at q ⊢
    exact k _ H3 _ f123 at3 (rr_bl false) q
  | true =>
    rw [if_pos rfl] at q ⊢
    refine hc _ _ _ ⟨Γ, _, at3, q, fun w H4 rw_ f4 at4 r4 p4 => ?_⟩
    refine hr' _ _ _ _ ⟨ry, rw_, P, ⟨_, _, at4⟩, (r2.ro.mono f3.nil).mono f4, r4.ro, p4, fun z5 H5 r5 f5 rr5 p5 => ?_⟩
    exact k z5 H5 r5 ((f123.trans f4).trans f5.nil) (at4.ext f5) (rr5.back (f123.trans f4)) p5
theorem ae_chain {op op' : CmpOp} {o o' : XO} {c3 : Expr} {C : XE} (ho : OpA X c (compareOp op) o) (ho' : OpA X c (compareOp op') o') (ha : PEa X c a A) (hb : PEa X c b B) (hc : PEa X c c3 C) (hm : lastMarks [op, op'] [b, c3] = false := by with_unfolding_all rfl) :
    PEa X c (.Compare a [op, op'] [b, c3] pos) (aChain o o' A B C) :=
  ⟨pe_imp (pe_chain ho.op ho'.op ha.pe hb.pe hc.pe hm) (chain_imp (fun _ _ _ _ h => h) (fun _ _ _ _ h => h) (fun _ _ _ h => h) (fun _ _ _ h => h) (fun _ _ _ h => h))⟩
theorem at_chain {op op' : CmpOp} {o o' : XO} {c3 : Expr} {C : XE} (ho : OpA X c (compareOp op) o) (ho' : OpA X c (compareOp op') o') (ha : PEa X c a A) (hb : PEa X c b B) (hc : PEa X c c3 C) (hm : lastMarks [op, op'] [b, c3] = false := by with_unfolding_all rfl) :
    PTa X c (.Compare a [op, op'] [b, c3] pos) (aTst (aChain o o' A B C)) :=
  ⟨pt_imp (pt_chain ho.op ho'.op ha.pe hb.pe hc.pe hm) (tst_imp (chain_imp (fun _ _ _ _ h => h) (fun _ _ _ _ h => h) (fun _ _ _ h => h) (fun _ _ _ h => h) (fun _ _ _ h => h)))⟩

/-- an operator of two ints -/
def oI (C : Int → Int → Prop) (g : Int → Int → PyData) : XO := fun x y P => ∃ i j, x = .dat (.int i) ∧ y = .dat (.int j) ∧ C i j ∧ P (.dat (g i j))
theorem opI_a {f : Value → Value → Sem Value} {C : Int → Int → Prop} {g : Int → Int → Int} (h : OpR X f (rI C fun i j => .int (g i j))) : OpA X c f (oI C fun i j => .int (g i j)) := ⟨opR_imp h fun x y H Q ⟨rx, ry, P, _, r1, r2, ⟨i, j, e1, e2, hc, p⟩, k⟩ => by
  subst e1 e2
  exact ⟨i, j, r1.int, r2.int, hc, k _ H _ (Fx.refl H) (rr_int _) p⟩⟩
theorem opI0_a {f : Value → Value → Sem Value} {g : Int → Int → Int} (h : OpR X f (rI0 fun i j => .int (g i j))) : OpA X c f (oI (fun _ _ => True) fun i j => .int (g i j)) := ⟨opR_imp h fun x y H Q ⟨rx, ry, P, _, r1, r2, ⟨i, j, e1, e2, hc, p⟩, k⟩ => by
  subst e1 e2
  exact ⟨i, j, r1.int, r2.int, k _ H _ (Fx.refl H) (rr_int _) p⟩⟩
theorem opB0_a {f : Value → Value → Sem Value} {g : Int → Int → Bool} (h : OpR X f (rI0 fun i j => .bl (g i j))) : OpA X c f (oI (fun _ _ => True) fun i j => .bool (g i j)) := ⟨opR_imp h fun x y H Q ⟨rx, ry, P, _, r1, r2, ⟨i, j, e1, e2, hc, p⟩, k⟩ => by
  subst e1 e2
  exact ⟨i, j, r1.int, r2.int, k _ H _ (Fx.refl H) (rr_bl _) p⟩⟩
/-- texts -/
def oStrCat : XO := fun x y P => ∃ i j, x = .dat (.str i) ∧ y = .dat (.str j) ∧ i.length + j.length ≤ sizeLine ∧ P (.dat (.str (i ++ j)))
theorem oa_strcat : OpA X c (binaryOp .Add) oStrCat := ⟨opR_imp op_add_str fun x y H Q ⟨rx, ry, P, _, r1, r2, ⟨i, j, e1, e2, hc, p⟩, k⟩ => by
  subst e1 e2
  exact ⟨i, j, r1.str, r2.str, hc, k _ H _ (Fx.refl H) (rr_str _) p⟩⟩
/-- tuples -/
def oTupCat : XO := fun x y P => ∃ xs ys, x = .dat (.tuple xs) ∧ y = .dat (.tuple ys) ∧ xs.length + ys.length ≤ sizeLine ∧ P (.dat (.tuple (xs ++ ys)))
theorem oa_tupcat (hK : X.K = c.K := by rfl) : OpA X c (binaryOp .Add) oTupCat := ⟨opR_imp op_catA fun x y H Q ⟨rx, ry, P, _, r1, r2, ⟨xs, ys, e1, e2, hc, p⟩, k⟩ => by
  subst e1 e2
  obtain ⟨a, vs, rfl, t1, d1, i1⟩ := r1.tup
  obtain ⟨b, ws, rfl, t2, d2, i2⟩ := r2.tup
  have l1 := dpAll_length d1
  have l2 := dpAll_length d2
  rw [hK]
  refine ⟨a, b, vs, ws, rfl, rfl, t1, t2, by omega, fun e => ?_, fun e e' => ?_, fun e e' q hq => ?_⟩
  · subst e
    cases d1
    exact k _ H _ (Fx.refl H) (rr_dat r2.dat) p
  · subst e'
    cases d2
    rw [List.append_nil] at p
    exact k _ H _ (Fx.refl H) (rr_dat r1.dat) p
  · have f : Fx [] H (upd H q (.tup (vs ++ ws))) := Fx.new hq
    exact k _ _ _ f (rr_tup upd_same (dpAll_append (dpAll_mono f.tup _ _ i1 d1) (dpAll_mono f.tup _ _ i2 d2)) (by simp [immAll_append, i1, i2])) p⟩
/-- lists -/
def oLstCat : XO := fun x y P => ∃ xs ys, x.lst? = some xs ∧ y.lst? = some ys ∧ (∃ z, x = .new z) ∧ (∃ z, y = .new z) ∧ xs.length + ys.length ≤ sizeLine ∧ P (.new (xs ++ ys))
theorem oa_lstcat : OpA X c (binaryOp .Add) oLstCat := ⟨opR_imp op_cat fun x y H Q ⟨rx, ry, P, ⟨σ, Γ, at_⟩, r1, r2, ⟨xs, ys, e1, e2, ⟨z1, e3⟩, ⟨z2, e4⟩, hc, p⟩, k⟩ => by
  subst e3 e4
  cases e1
  cases e2
  obtain ⟨_, a, vs, rfl, _, s1, h1, d1, i1⟩ := r1
  obtain ⟨_, b, ws, rfl, _, s2, h2, d2, i2⟩ := r2
  have l1 := dpAll_length d1
  have l2 := dpAll_length d2
  refine ⟨a, b, vs, ws, rfl, rfl, h1, h2, by omega, fun q hq => ?_⟩
  have f : Fx [] H (upd H q (.lst (vs ++ ws))) := Fx.new hq
  exact k _ _ _ f (rr_new hq (at_.fresh hq).1 upd_same (dpAll_append (dpAll_mono f.tup _ _ i1 d1) (dpAll_mono f.tup _ _ i2 d2)) (by simp [immAll_append, i1, i2])) p⟩
def oAdd : XO := fun x y P => oI (fun _ _ => True) (fun i j => .int (i + j)) x y P ∨ oStrCat x y P ∨ oTupCat x y P ∨ oLstCat x y P
theorem oa_add (hK : X.K = c.K := by rfl) : OpA X c (binaryOp .Add) oAdd := (opI0_a op_add).or (oa_strcat.or ((oa_tupcat hK).or oa_lstcat))
theorem oa_sub : OpA X c (binaryOp .Sub) (oI (fun _ _ => True) fun i j => .int (i - j)) := opI0_a op_sub
theorem oa_mod : OpA X c (binaryOp .Mod) (oI (fun _ j => j ≠ 0) fun i j => .int (i.fmod j)) := opI_a op_modN
theorem oa_fdiv : OpA X c (binaryOp .FloorDiv) (oI CDivN fun i j => .int (i.fdiv j)) := opI_a op_fdivN
theorem oa_pow : OpA X c (binaryOp .Pow) (oI CPow fun i j => .int (i ^ j.toNat)) := opI_a op_pow
theorem oa_lt : OpA X c (compareOp .Lt) (oI (fun _ _ => True) fun i j => .bool (decide (i < j))) := opB0_a op_lt
theorem oa_le : OpA X c (compareOp .LtE) (oI (fun _ _ => True) fun i j => .bool (decide (i ≤ j))) := opB0_a op_le
theorem oa_gt : OpA X c (compareOp .Gt) (oI (fun _ _ => True) fun i j => .bool (decide (j < i))) := opB0_a op_gt
theorem oa_ge : OpA X c (compareOp .GtE) (oI (fun _ _ => True) fun i j => .bool (decide (j ≤ i))) := opB0_a op_ge
/-- == over data -/
def oEq : XO := fun x y P => ∃ d e, x.dt? = some d ∧ y.dt? = some e ∧ SeqAt.shaped d = true ∧ SeqAt.shaped e = true ∧ P (.dat (.bool (PyData.eqv d e)))
def oNe : XO := fun x y P => ∃ d e, x.dt? = some d ∧ y.dt? = some e ∧ SeqAt.shaped d = true ∧ SeqAt.shaped e = true ∧ P (.dat (.bool (!PyData.eqv d e)))
theorem oa_eq (hu : X.A.units + 64 < cLine) (hK : X.K = c.K := by rfl) : OpA X c (compareOp .Eq) oEq := ⟨opR_imp (op_eqD hu) fun x y H Q ⟨rx, ry, P, _, r1, r2, ⟨d, e, e1, e2, s1, s2, p⟩, k⟩ => by
  rw [hK]
  exact ⟨d, e, r1.dt e1, r2.dt e2, s1, s2, k _ H _ (Fx.refl H) (rr_bl _) p⟩⟩
theorem oa_ne (hu : X.A.units + 64 < cLine) (hK : X.K = c.K := by rfl) : OpA X c (compareOp .NotEq) oNe := ⟨opR_imp (op_neD hu) fun x y H Q ⟨rx, ry, P, _, r1, r2, ⟨d, e, e1, e2, s1, s2, p⟩, k⟩ => by
  rw [hK]
  exact ⟨d, e, r1.dt e1, r2.dt e2, s1, s2, k _ H _ (Fx.refl H) (rr_bl _) p⟩⟩
/-- is, is not: of None, of bools -/
def isNone : PyData → Bool
  | .none => true
  | _ => false
def oIs : XO := fun x y P => (∃ d, x = .dat d ∧ y = .dat .none ∧ P (.dat (.bool (isNone d)))) ∨ ∃ i j, x = .dat (.bool i) ∧ y = .dat (.bool j) ∧ P (.dat (.bool (decide (i = j))))
def oIsn : XO := fun x y P => (∃ d, x = .dat d ∧ y = .dat .none ∧ P (.dat (.bool (!isNone d)))) ∨ ∃ i j, x = .dat (.bool i) ∧ y = .dat (.bool j) ∧ P (.dat (.bool (!decide (i = j))))
theorem isNone_of {H : Hp} {v : V} {d : PyData} (h : Dp c.K H v d) : decide (v = .non) = isNone d := by
  cases h <;> rfl
theorem oa_is : OpA X c (compareOp .Is) oIs := ⟨opR_imp (opR_or op_isN op_isBl) fun x y H Q ⟨rx, ry, P, _, r1, r2, o, k⟩ => by
  rcases o with ⟨d, e1, e2, p⟩ | ⟨i, j, e1, e2, p⟩
  · subst e1 e2
    refine .inl ⟨r2.non, ?_⟩
    rw [isNone_of r1.dat.1]
    exact k _ H _ (Fx.refl H) (rr_bl _) p
  · subst e1 e2
    exact .inr ⟨i, j, r1.bl, r2.bl, k _ H _ (Fx.refl H) (rr_bl _) p⟩⟩
theorem oa_isn : OpA X c (compareOp .IsNot) oIsn := ⟨opR_imp (opR_or op_notN op_notBl) fun x y H Q ⟨rx, ry, P, _, r1, r2, o, k⟩ => by
  rcases o with ⟨d, e1, e2, p⟩ | ⟨i, j, e1, e2, p⟩
  · subst e1 e2
    refine .inl ⟨r2.non, ?_⟩
    rw [isNone_of r1.dat.1]
    exact k _ H _ (Fx.refl H) (rr_bl _) p
  · subst e1 e2
    exact .inr ⟨i, j, r1.bl, r2.bl, k _ H _ (Fx.refl H) (rr_bl _) p⟩⟩
end
end Ab

namespace Ab
open PySem PySem.Spec PyProof.Rows L2

/-! ### tuple * int where nothing is copied -/
theorem tuple_mul_same (l : Addr) (items : Array Value) (n : Nat) (dd : Option Addr) (sl : Array (Option Value)) (x : Int) (u : Tok) (c0 : (decide (x < -(2 ^ 63)) || decide (x ≥ 2 ^ 63)) = false) (c1 : (items.isEmpty || x == 1) = true) :
    Meets (Builtin.«tuple.__mul__» ⟨[.ref l, .int x u], []⟩) (fun _ R s => s.heap.get? l = some { cls := .type "tuple", dict := dd, data := .seq items n, slots := sl } ∧ R (.ok (.ret (Value.ref l))) s) :=
  .of_wp fun prog w A R s h => by
    obtain ⟨hp, g, d, tk, os⟩ := s
    obtain ⟨hl, h⟩ := h
    have f1 := AutoSeq1.idx_int
    wp_walk using wpAny_loadPart' hl
    repeat (first
      | (refine wpAny_ite_false (decide_eq_false (by rw [c0]; exact Bool.false_ne_true)) ?_; wp_walk using wpAny_loadPart' hl)
      | (refine wpAny_ite_true (decide_eq_true c1) ?_; wp_walk using wpAny_loadPart' hl))
    exact ⟨_, rfl, h⟩
theorem tuple_mul_none (l : Addr) (items : Array Value) (n : Nat) (dd : Option Addr) (sl : Array (Option Value)) (x : Int) (u : Tok) (c0 : (decide (x < -(2 ^ 63)) || decide (x ≥ 2 ^ 63)) = false) (c1 : (items.isEmpty || x == 1) = false) (c2 : (decide (x ≤ 0) || items.isEmpty) = true) :
    Meets (Builtin.«tuple.__mul__» ⟨[.ref l, .int x u], []⟩) (fun _ R s => s.heap.get? l = some { cls := .type "tuple", dict := dd, data := .seq items n, slots := sl } ∧
      R (.ok (.ret (Value.ref s.heap.objs.size))) { s with heap := s.heap.push { cls := Value.type "tuple", data := Data.seq #[] }, toks := s.toks }) :=
  .of_wp fun prog w A R s h => by
    obtain ⟨hp, g, d, tk, os⟩ := s
    obtain ⟨hl, h⟩ := h
    have f1 := AutoSeq1.idx_int
    wp_walk using wpAny_loadPart' hl
    repeat (first
      | (refine wpAny_ite_false (decide_eq_false (by rw [c0]; exact Bool.false_ne_true)) ?_; wp_walk using wpAny_loadPart' hl)
      | (refine wpAny_ite_false (decide_eq_false (by rw [c1]; exact Bool.false_ne_true)) ?_; wp_walk using wpAny_loadPart' hl)
      | (refine wpAny_ite_true (decide_eq_true c2) ?_; wp_walk using wpAny_loadPart' hl))
    exact ⟨_, rfl, h⟩
section
variable {X : Cx}
def rRepS (K : PySem.W.Frag) : R2 := fun x y H Q => ∃ l k xs, x = .ref l ∧ y = .int k ∧ SqT K H l xs ∧ (xs = [] ∨ k = 1) ∧ -(2 ^ 63) ≤ k ∧ k < 2 ^ 63 ∧ Q (.ref l) H
def rRepN (K : PySem.W.Frag) : R2 := fun x y H Q => ∃ l k xs, x = .ref l ∧ y = .int k ∧ SqT K H l xs ∧ xs ≠ [] ∧ k ≤ 0 ∧ -(2 ^ 63) ≤ k ∧ ∀ p, H p = none → Q (.ref p) (upd H p (.tup []))
theorem op_repS : OpR X (binaryOp .Mult) (rRepS X.K) := by
  intro pins s σ H x y v u Q I rx ry h
  obtain ⟨l, k, xs, rfl, rfl, hT, hor, h1, h2, q⟩ := h
  cases rx
  obtain ⟨t, rfl⟩ := ry
  obtain ⟨its, r, ⟨⟨cls, dd, data, sl⟩, ho, hc, n, hd⟩, hs⟩ := I.tuple hT
  simp only at hc hd
  subst hc hd
  have c0 : (decide (k < -(2 ^ 63)) || decide (k ≥ 2 ^ 63)) = false := by
    rw [decide_eq_false (by omega), decide_eq_false (by omega)] <;> rfl
  have c1 : (its.toArray.isEmpty || k == 1) = true := by
    rcases hor with e | e
    · subst e
      cases r
      rfl
    · subst e
      simp
  refine wpAny_binaryOp_repeat_ref (T := "tuple") (U := "int") (by decide) ⟨_, ho, rfl⟩ (fun s' => typeIs_int s' k t) noFill_tuple_mul F.fills_int_mul F.slot_int_rmul repeat_tuple F.slot_int_index.lookup
    (call_meets F.slot_int_rmul (typeIs_int s k t) F.entry_int_rmul (F.args_int_rmul_2 _ _) (int_rmul_tuple k t l its.toArray n dd sl)
      ⟨ho, rfl, ⟨_, ho, rfl⟩, call_meets F.slot_tuple_mul ⟨_, ho, rfl⟩ F.entry_tuple_mul (F.args_tuple_mul_2 _ _) (tuple_mul_same l its.toArray n dd sl k t c0 c1) ⟨ho, ?_⟩⟩)
  exact ⟨.ref l, H, I, rfl, q⟩
theorem op_repN : OpR X (binaryOp .Mult) (rRepN X.K) := by
  intro pins s σ H x y v u Q I rx ry h
  obtain ⟨l, k, xs, rfl, rfl, hT, hne, h1, h2, q⟩ := h
  cases rx
  obtain ⟨t, rfl⟩ := ry
  obtain ⟨its, r, ⟨⟨cls, dd, data, sl⟩, ho, hc, n, hd⟩, hs⟩ := I.tuple hT
  simp only at hc hd
  subst hc hd
  have hi : its.toArray.isEmpty = false := by
    cases r with
    | nil => exact absurd rfl hne
    | cons a b => rfl
  have c0 : (decide (k < -(2 ^ 63)) || decide (k ≥ 2 ^ 63)) = false := by
    rw [decide_eq_false (by omega), decide_eq_false (by omega)] <;> rfl
  have c1 : (its.toArray.isEmpty || k == 1) = false := by
    rw [hi, Bool.false_or]
    exact beq_eq_false_iff_ne.mpr (by omega)
  have c2 : (decide (k ≤ 0) || its.toArray.isEmpty) = true := by
    rw [decide_eq_true (by omega)]; rfl
  refine wpAny_binaryOp_repeat_ref (T := "tuple") (U := "int") (by decide) ⟨_, ho, rfl⟩ (fun s' => typeIs_int s' k t) noFill_tuple_mul F.fills_int_mul F.slot_int_rmul repeat_tuple F.slot_int_index.lookup
    (call_meets F.slot_int_rmul (typeIs_int s k t) F.entry_int_rmul (F.args_int_rmul_2 _ _) (int_rmul_tuple k t l its.toArray n dd sl)
      ⟨ho, rfl, ⟨_, ho, rfl⟩, call_meets F.slot_tuple_mul ⟨_, ho, rfl⟩ F.entry_tuple_mul (F.args_tuple_mul_2 _ _) (tuple_mul_none l its.toArray n dd sl k t c0 c1 c2) ⟨ho, ?_⟩⟩)
  refine ⟨.ref s.heap.objs.size, _, I.laid (t' := s.toks) (o := .tup []) (fun b ob q => Heap.get?_push_of_some _ q) (Nat.le_refl _) ?_, rfl, q _ (I.hok.fresh (Nat.le_refl _))⟩
  exact ⟨Nat.zero_le _, _, .nil, IsTup.new _ _⟩
end

section
variable {X : Cx} {c : Ctx} {e a b : Expr} {A B : XE} {pos : Pos}
/-- k copies of a row -/
def reps {α : Type} (k : Int) (xs : List α) : List α := (List.replicate k.toNat xs).flatten
theorem dpAll_reps {K : PySem.W.Frag} {H : Hp} {vs : List V} {ds : List PyData} (h : DpAll K H vs ds) : ∀ n : Nat, DpAll K H (List.replicate n vs).flatten (List.replicate n ds).flatten
  | 0 => .nil
  | n + 1 => by
    rw [List.replicate_succ, List.flatten_cons, List.replicate_succ, List.flatten_cons]
    exact dpAll_append h (dpAll_reps h n)
theorem immAll_reps {ds : List PyData} (h : immAll ds = true) : ∀ n : Nat, immAll (List.replicate n ds).flatten = true
  | 0 => rfl
  | n + 1 => by
    rw [List.replicate_succ, List.flatten_cons, immAll_append, h, immAll_reps h n]
    rfl
def oTupRep : XO := fun x y P => ∃ xs k, x = .dat (.tuple xs) ∧ y = .dat (.int k) ∧ -1000 ≤ k ∧ k ≤ 1000 ∧ xs.length ≤ 1000 ∧ P (.dat (.tuple (reps k xs)))
theorem oa_tuprep (hK : X.K = c.K := by rfl) : OpA X c (binaryOp .Mult) oTupRep := ⟨opR_imp (opR_or op_repT (opR_or op_repS op_repN)) fun x y H Q ⟨rx, ry, P, _, r1, r2, ⟨xs, j, e1, e2, h1, h2, h3, p⟩, k⟩ => by
  subst e1 e2
  obtain ⟨l, vs, rfl, t1, d1, i1⟩ := r1.tup
  have e := r2.int
  subst e
  have l1 := dpAll_length d1
  rw [hK]
  by_cases c1 : xs = [] ∨ j = 1
  · refine .inr (.inl ⟨l, j, vs, rfl, rfl, t1, ?_, by omega, by omega, ?_⟩)
    · rcases c1 with c1 | c1
      · subst c1; cases d1; exact .inl rfl
      · exact .inr c1
    · have e2 : reps j xs = xs := by
        rcases c1 with c1 | c1
        · subst c1
          unfold reps
          simp
        · subst c1
          unfold reps
          simp
      rw [e2] at p
      exact k _ H _ (Fx.refl H) (rr_dat r1.dat) p
  · have n1 : xs ≠ [] := fun z => c1 (.inl z)
    have n2 : j ≠ 1 := fun z => c1 (.inr z)
    have n3 : vs ≠ [] := fun z => by
      subst z
      cases d1
      exact n1 rfl
    by_cases c2 : j ≤ 0
    · refine .inr (.inr ⟨l, j, vs, rfl, rfl, t1, n3, c2, by omega, fun q hq => ?_⟩)
      have f : Fx [] H (upd H q (.tup [])) := Fx.new hq
      have e2 : reps j xs = [] := by
        unfold reps
        rw [show j.toNat = 0 by omega]
        rfl
      rw [e2] at p
      exact k _ _ _ f (rr_tup upd_same .nil rfl) p
    · refine .inl ⟨l, j, vs, rfl, rfl, t1, n3, by omega, h2, by omega, fun q hq => ?_⟩
      have f : Fx [] H (upd H q (.tup (List.replicate j.toNat vs).flatten)) := Fx.new hq
      exact k _ _ _ f (rr_tup upd_same (dpAll_reps (dpAll_mono f.tup _ _ i1 d1) _) (immAll_reps i1 _)) p⟩
def oLstRep : XO := fun x y P => ∃ xs k, x = .new xs ∧ y = .dat (.int k) ∧ -(2 ^ 63) ≤ k ∧ k < 2 ^ 63 ∧ xs.length * k.toNat ≤ sizeLine ∧ P (.new (reps k xs))
theorem oa_lstrep : OpA X c (binaryOp .Mult) oLstRep := ⟨opR_imp op_rep fun x y H Q ⟨rx, ry, P, ⟨σ, Γ, at_⟩, r1, r2, ⟨xs, j, e1, e2, h1, h2, h3, p⟩, k⟩ => by
  subst e1 e2
  obtain ⟨_, l, vs, rfl, _, s1, t1, d1, i1⟩ := r1
  have e := r2.int
  subst e
  have l1 := dpAll_length d1
  refine ⟨l, j, vs, rfl, rfl, t1, h1, h2, by rw [l1]; exact h3, fun q hq => ?_⟩
  have f : Fx [] H (upd H q (.lst (List.replicate j.toNat vs).flatten)) := Fx.new hq
  exact k _ _ _ f (rr_new hq (at_.fresh hq).1 upd_same (dpAll_reps (dpAll_mono f.tup _ _ i1 d1) _) (immAll_reps i1 _)) p⟩
def oMul : XO := fun x y P => oI CMul (fun i j => .int (i * j)) x y P ∨ oTupRep x y P ∨ oLstRep x y P
theorem oa_mul (hK : X.K = c.K := by rfl) : OpA X c (binaryOp .Mult) oMul := (opI_a op_mul).or ((oa_tuprep hK).or oa_lstrep)

/-! unary -/
abbrev XU := RV → (RV → Prop) → Prop
def aNeg (A : XE) : XE := fun Γ P => A Γ fun x => ∃ i, x = .dat (.int i) ∧ P (.dat (.int (-i)))
theorem ae_neg (hr : UnR X (unaryOp .USub) (rU fun i => .int (-i)) := by exact un_neg) (ha : PEa X c a A) : PEa X c (.UnaryOp .USub a pos) (aNeg A) := ⟨pe_imp (pe_un hr ha.pe) fun σ H Q ⟨Γ, P, at_, p, k⟩ => by
  refine ⟨Γ, _, at_, p, fun v H1 rx f1 at1 r1 p1 => ?_⟩
  obtain ⟨i, rfl, q⟩ := p1
  exact ⟨i, r1.ro.int, k _ H1 _ f1 at1 (rr_int _) q⟩⟩
/-- not -/
def aNotV (A : XE) : XE := fun Γ P => A Γ fun x => ∃ b, x = .dat (.bool b) ∧ P (.dat (.bool (!b)))
theorem ae_not (ha : PEa X c a A) : PEa X c (.UnaryOp .Not a pos) (aNotV A) := ⟨pe_imp (pe_not ha.pe) fun σ H Q ⟨Γ, P, at_, p, k⟩ => by
  refine ⟨Γ, _, at_, p, fun v H1 rx f1 at1 r1 p1 => ?_⟩
  obtain ⟨i, rfl, q⟩ := p1
  exact ⟨i, r1.ro.bl, k _ H1 _ f1 at1 (rr_bl _) q⟩⟩
/-- and, or as values (all but the last are bools) -/
def aAndV (A B : XE) : XE := fun Γ P => A Γ fun x => ∃ b, x = .dat (.bool b) ∧ if b = true then B Γ P else P (.dat (.bool false))
def aOrV (A B : XE) : XE := fun Γ P => A Γ fun x => ∃ b, x = .dat (.bool b) ∧ if b = true then P (.dat (.bool true)) else B Γ P
theorem ae_one {op} (ha : PEa X c a A) : PEa X c (.BoolOp op [a] pos) A := ⟨pe_one ha.pe⟩
theorem gE_next {H H1 : Hp} {σ : L2.St} {Γ : Gam} {P : RV → Prop} {Q : VK} (f1 : Fx c.S H H1) (at1 : At c σ H1 Γ) (h : B Γ P) (k : ∀ v H' r, Fx c.S H H' → At c σ H' Γ → RR c H H' v r → P r → Q v H') : gE c B σ H1 Q :=
  ⟨Γ, P, at1, h, fun v H2 r f2 at2 r2 p2 => k v H2 r (f1.trans f2) at2 (r2.back f1) p2⟩
theorem ae_and {rest : List Expr} (ha : PEa X c a A) (hb : PEa X c (.BoolOp .And (b :: rest) pos) B) : PEa X c (.BoolOp .And (a :: b :: rest) pos) (aAndV A B) := ⟨pe_imp (pe_and ha.pe hb.pe) fun σ H Q ⟨Γ, P, at_, p, k⟩ => by
  refine ⟨Γ, _, at_, p, fun v H1 rx f1 at1 r1 p1 => ?_⟩
  obtain ⟨i, rfl, q⟩ := p1
  refine ⟨i, r1.ro.bl, ?_⟩
  cases i with
  | false =>
    rw [if_neg Bool.false_ne_true] at q ⊢
    exact k _ H1 _ f1 at1 (rr_bl _) q
  | true =>
    rw [if_pos rfl] at q ⊢
    exact gE_next f1 at1 q k⟩
theorem ae_or {rest : List Expr} (ha : PEa X c a A) (hb : PEa X c (.BoolOp .Or (b :: rest) pos) B) : PEa X c (.BoolOp .Or (a :: b :: rest) pos) (aOrV A B) := ⟨pe_imp (pe_or ha.pe hb.pe) fun σ H Q ⟨Γ, P, at_, p, k⟩ => by
  refine ⟨Γ, _, at_, p, fun v H1 rx f1 at1 r1 p1 => ?_⟩
  obtain ⟨i, rfl, q⟩ := p1
  refine ⟨i, r1.ro.bl, ?_⟩
  cases i with
  | true =>
    rw [if_pos rfl] at q ⊢
    exact k _ H1 _ f1 at1 (rr_bl _) q
  | false =>
    rw [if_neg Bool.false_ne_true] at q ⊢
    exact gE_next f1 at1 q k⟩

/-! tests -/
def tAndA (A B : XT) : XT := fun Γ P => A Γ fun b => if b = true then B Γ P else P false
def tOrA (A B : XT) : XT := fun Γ P => A Γ fun b => if b = true then P true else B Γ P
def tNotA (A : XT) : XT := fun Γ P => A Γ fun b => P (!b)
variable {T U : XT}
theorem gT_next {H H1 : Hp} {σ : L2.St} {Γ : Gam} {P : Bool → Prop} {Q : Bool → Hp → Prop} (f1 : Fx c.S H H1) (at1 : At c σ H1 Γ) (h : U Γ P) (k : ∀ b H', Fx c.S H H' → At c σ H' Γ → P b → Q b H') : gT c U σ H1 Q :=
  ⟨Γ, P, at1, h, fun b H2 f2 at2 p2 => k b H2 (f1.trans f2) at2 p2⟩
theorem PWa.t (h : PWa X c e T) : PTa X c e T := ⟨h.pw.pt⟩
theorem aw_and1 (ha : PTa X c a T) : PWa X c (.BoolOp .And [a] pos) T := ⟨pw_and1 ha.pt⟩
theorem aw_or1 (ha : PTa X c a T) : PWa X c (.BoolOp .Or [a] pos) T := ⟨pw_or1 ha.pt⟩
theorem aw_and {rest : List Expr} (ha : PTa X c a T) (hb : PWa X c (.BoolOp .And (b :: rest) pos) U) : PWa X c (.BoolOp .And (a :: b :: rest) pos) (tAndA T U) := ⟨pw_imp (pw_and ha.pt hb.pw) fun σ H Q ⟨Γ, P, at_, p, k⟩ => by
  refine ⟨Γ, _, at_, p, fun i H1 f1 at1 q => ?_⟩
  cases i with
  | false =>
    rw [if_neg Bool.false_ne_true] at q ⊢
    exact k _ H1 f1 at1 q
  | true =>
    rw [if_pos rfl] at q ⊢
    exact gT_next f1 at1 q k⟩
theorem aw_or {rest : List Expr} (ha : PTa X c a T) (hb : PWa X c (.BoolOp .Or (b :: rest) pos) U) : PWa X c (.BoolOp .Or (a :: b :: rest) pos) (tOrA T U) := ⟨pw_imp (pw_or ha.pt hb.pw) fun σ H Q ⟨Γ, P, at_, p, k⟩ => by
  refine ⟨Γ, _, at_, p, fun i H1 f1 at1 q => ?_⟩
  cases i with
  | true =>
    rw [if_pos rfl] at q ⊢
    exact k _ H1 f1 at1 q
  | false =>
    rw [if_neg Bool.false_ne_true] at q ⊢
    exact gT_next f1 at1 q k⟩
theorem at_not (ha : PTa X c a T) : PTa X c (.UnaryOp .Not a pos) (tNotA T) := ⟨pt_imp (pt_not ha.pt) fun σ H Q ⟨Γ, P, at_, p, k⟩ => ⟨Γ, _, at_, p, fun i H1 f1 at1 q => k _ H1 f1 at1 q⟩⟩
/-- the truth of a value -/
def truth : RV → Option Bool
  | .dat .none => some false
  | .dat (.bool b) => some b
  | .dat (.int i) => some (i != 0)
  | .dat (.str x) => if x.length ≤ sizeLine then some ((x.length : Int) != 0) else none
  | .dat (.tuple xs) => some !xs.isEmpty
  | .new xs => some !xs.isEmpty
  | .vw xs => some !xs.isEmpty
  | .al xs => some !xs.isEmpty
  | _ => none
theorem dpAll_empty {K : PySem.W.Frag} {H : Hp} {vs : List V} {ds : List PyData} (h : DpAll K H vs ds) : vs.isEmpty = ds.isEmpty := by
  cases h <;> rfl
theorem truth_ok {H : Hp} {v : V} {r : RV} {b : Bool} (h : RO c H v r) (e : truth r = some b) : TruV c.K v H b := by
  cases r with
  | dat d =>
    cases d with
    | none => cases h.non; cases e; rfl
    | bool i => cases h.bl; cases e; rfl
    | int i => cases h.int; cases e; rfl
    | str x =>
      cases h.str
      have e2 : (if x.length ≤ sizeLine then some ((x.length : Int) != 0) else none) = some b := e
      by_cases hx : x.length ≤ sizeLine
      · rw [if_pos hx] at e2
        cases e2
        exact ⟨hx, rfl⟩
      · rw [if_neg hx] at e2
        cases e2
    | tuple xs =>
      obtain ⟨a, vs, rfl, t1, d1, i1⟩ := h.tup
      cases e
      exact .inr (.inl ⟨vs, t1, by rw [dpAll_empty d1]⟩)
    | list xs => cases e
    | dict xs => cases e
  | new xs =>
    obtain ⟨a, vs, rfl, _, t1, d1, i1⟩ := h.lst rfl
    cases e
    exact .inl ⟨vs, t1, by rw [dpAll_empty d1]⟩
  | vw xs =>
    obtain ⟨a, vs, rfl, _, t1, d1, i1⟩ := h.lst rfl
    cases e
    exact .inl ⟨vs, t1, by rw [dpAll_empty d1]⟩
  | al xs =>
    obtain ⟨a, vs, rfl, _, t1, d1, i1⟩ := h.lst rfl
    cases e
    exact .inl ⟨vs, t1, by rw [dpAll_empty d1]⟩
  | obj p => cases e
def aTru (A : XE) : XT := fun Γ P => A Γ fun r => ∃ b, truth r = some b ∧ P b
theorem at_tru (ha : PEa X c a A) (he : ∀ whole, isTrue a X.env whole = (do let v ← whole; standAt a.pos; holding [v] (truthy v)) := by intro _; rfl) (hK : X.K = c.K := by rfl) : PTa X c a (aTru A) := ⟨pt_imp (pt_truth ha.pe he) fun σ H Q ⟨Γ, P, at_, p, k⟩ => by
  refine ⟨Γ, _, at_, p, fun v H1 rx f1 at1 r1 ⟨b, e, q⟩ => ?_⟩
  refine ⟨b, ?_, k b H1 f1 at1 q⟩
  rw [hK]
  exact truth_ok r1.ro e⟩
def aIf (T : XT) (A B : XE) : XE := fun Γ P => T Γ fun b => if b = true then A Γ P else B Γ P
theorem ae_if {t : Expr} (ht : PTa X c t T) (ha : PEa X c a A) (hb : PEa X c b B) : PEa X c (.IfExp t a b pos) (aIf T A B) := ⟨pe_imp (pe_ifExp ht.pt ha.pe hb.pe) fun σ H Q ⟨Γ, P, at_, p, k⟩ => by
  refine ⟨Γ, _, at_, p, fun i H1 f1 at1 q => ?_⟩
  cases i with
  | true =>
    rw [if_pos rfl] at q ⊢
    exact gE_next f1 at1 q k
  | false =>
    rw [if_neg Bool.false_ne_true] at q ⊢
    exact gE_next f1 at1 q k⟩

/-! arguments, displays -/
variable {es : List Expr} {L : XA}
def aNil : XA := fun _ P => P []
def aCons (A : XE) (L : XA) : XA := fun Γ P => A Γ fun x => L Γ fun xs => P (x :: xs)
theorem aa_nil : PAa X c [] aNil := ⟨pa_imp pa_nil fun σ H Q ⟨Γ, P, at_, p, k⟩ => k [] H [] (Fx.refl H) at_ .nil p⟩
theorem aa_cons (ha : PEa X c e A) (hl : PAa X c es L) (hs : starEach (e :: es) X.env = (false, eval e X.env) :: starEach es X.env := by rfl) : PAa X c (e :: es) (aCons A L) := ⟨pa_imp (pa_cons ha.pe hl.pa hs) fun σ H Q ⟨Γ, P, at_, p, k⟩ => by
  refine ⟨Γ, _, at_, p, fun v H1 rx f1 at1 r1 p1 => ?_⟩
  refine ⟨Γ, _, at1, p1, fun vs H2 rs f2 at2 r2 p2 => ?_⟩
  exact k _ H2 _ (f1.trans f2) at2 (.cons (r1.mono f2) (r2.back f1)) p2⟩
/-- all data -/
def datas : List RV → Option (List PyData)
  | [] => some []
  | .dat d :: r => (datas r).map (d :: ·)
  | _ :: _ => none
theorem datas_ok {H H' : Hp} : ∀ {vs : List V} {rs : List RV} {ds : List PyData}, RRs c H H' vs rs → datas rs = some ds → DpAll c.K H' vs ds ∧ immAll ds = true
  | _, _, ds, .nil, e => by cases e; exact ⟨.nil, rfl⟩
  | _, _, ds, .cons (b := r) h t, e => by
    cases r with
    | dat d =>
      unfold datas at e
      rw [Option.map_eq_some_iff] at e
      obtain ⟨es, e1, e2⟩ := e
      subst e2
      obtain ⟨h1, h2⟩ := datas_ok t e1
      exact ⟨.cons h.1 h1, by simp [immAll, h.2, h2]⟩
    | new _ => cases e
    | vw _ => cases e
    | al _ => cases e
    | obj _ => cases e
def aTup (L : XA) : XE := fun Γ P => L Γ fun rs => ∃ ds, datas rs = some ds ∧ ds.length ≤ sizeLine ∧ P (.dat (.tuple ds))
theorem ae_tup {x1} (hl : PAa X c es L) : PEa X c (.Tuple es x1 pos) (aTup L) := ⟨pe_imp (pe_tup hl.pa) fun σ H Q ⟨Γ, P, at_, p, k⟩ => by
  refine ⟨Γ, _, at_, p, fun vs H1 rs f1 at1 r1 ⟨ds, e, hz, q⟩ => ?_⟩
  obtain ⟨d1, i1⟩ := datas_ok r1 e
  refine ⟨by rw [dpAll_length d1]; exact hz, fun x hx => ?_⟩
  have f : Fx [] H1 (upd H1 x (.tup vs)) := Fx.new hx
  exact k _ _ _ (f1.trans f.nil) (at1.ext f) (rr_tup upd_same (dpAll_mono f.tup _ _ i1 d1) i1) q⟩
def aLst (L : XA) : XE := fun Γ P => L Γ fun rs => ∃ ds, datas rs = some ds ∧ ds.length ≤ sizeLine ∧ P (.new ds)
theorem ae_lst (hl : PAa X c es L) : PEa X c (.List es pos) (aLst L) := ⟨pe_imp (pe_lst hl.pa) fun σ H Q ⟨Γ, P, at_, p, k⟩ => by
  refine ⟨Γ, _, at_, p, fun vs H1 rs f1 at1 r1 ⟨ds, e, hz, q⟩ => ?_⟩
  obtain ⟨d1, i1⟩ := datas_ok r1 e
  refine ⟨by rw [dpAll_length d1]; exact hz, fun x hx => ?_⟩
  have f : Fx [] H1 (upd H1 x (.lst vs)) := Fx.new hx
  have n := (at1.fresh hx).1
  exact k _ _ _ (f1.trans f.nil) (at1.ext f) (rr_new (f1.free n hx) n upd_same (dpAll_mono f.tup _ _ i1 d1) i1) q⟩
end
end Ab

namespace Ab
open PySem PySem.Spec PyProof.Rows L2

/-! ### calls of the text's defs -/
def RV.arg : RV → RV
  | .new ds => .vw ds
  | .al ds => .vw ds
  | r => r
/-- what a def may hand back -/
def RV.ret : RV → Bool
  | .dat _ => true
  | .new _ => true
  | _ => false
abbrev Asp := List RV → (RV → Prop) → Prop
def cx0 (K : PySem.W.Frag) (S : List Addr) (J : Hp → Prop) (H : Hp) : Ctx := ⟨K, S, J, H⟩
abbrev ArgR (K : PySem.W.Frag) (S : List Addr) (H : Hp) : V → RV → Prop := RR (cx0 K S (fun _ => True) H) H H
/-- a pure def's promise -/
def pSp (K : PySem.W.Frag) (asp : Asp) : Sp := fun vs H Q _ => ∃ rs P, Paired (ArgR K [] H) vs rs ∧ asp rs P ∧ ∀ v H' r, Fx [] H H' → RR (cx0 K [] (fun _ => True) H) H H' v r → r.ret = true → P r → Q v H'
/-- the promise of a def that changes one list of its caller's: its address st, what stands of it J -/
def isRef (st : Addr) : V → Prop := fun v => v = .ref st
def dSp (K : PySem.W.Frag) (T : List Addr) (W : Addr → (Hp → Prop) → Prop) (asp : Addr → Asp) : Sp := fun vs H Q _ => ∃ st J rs P, W st J ∧ J H ∧ Paired (ArgR K (st :: T) H) vs rs ∧ asp st rs P ∧
  ∀ v H' r, Fx (st :: T) H H' → J H' → RR (cx0 K (st :: T) J H) H H' v r → r.ret = true → P r → Q v H'

section
variable {X : Cx} {c : Ctx} {e a b : Expr} {es : List Expr} {A B : XE} {L : XA} {pos p : Pos}
theorem argR_of {K : PySem.W.Frag} {J : Hp → Prop} {H0 H H1 : Hp} {S T : List Addr} {v : V} {r : RV} (h : RR ⟨K, S, J, H0⟩ H H1 v r) (hT : ∀ x ∈ T, x ∈ S) : ArgR K T H1 v r.arg := by
  cases r with
  | dat d => exact h
  | new ds =>
    obtain ⟨x, vs, rfl, h1, h2, h3, h4, h5⟩ := h
    exact ⟨x, vs, rfl, fun z => h2 (hT x z), SqL.of h3, SqL.of h3, h4, h5⟩
  | vw ds =>
    obtain ⟨x, vs, rfl, h2, _, h3, h4, h5⟩ := h
    exact ⟨x, vs, rfl, fun z => h2 (hT x z), h3, h3, h4, h5⟩
  | al ds =>
    obtain ⟨x, vs, rfl, h2, h3, h4, h5⟩ := h
    exact ⟨x, vs, rfl, fun z => h2 (hT x z), h3, h3, h4, h5⟩
  | obj q => exact h
theorem argRs_of {K : PySem.W.Frag} {J : Hp → Prop} {H0 H H1 : Hp} {S T : List Addr} (hT : ∀ x ∈ T, x ∈ S) : ∀ {vs : List V} {rs : List RV}, RRs ⟨K, S, J, H0⟩ H H1 vs rs → Paired (ArgR K T H1) vs (rs.map RV.arg)
  | _, _, .nil => .nil
  | _, _, .cons h t => .cons (argR_of h hT) (argRs_of hT t)
def aCall (asp : Asp) (L : XA) : XE := fun Γ P => L Γ fun rs => asp (rs.map RV.arg) P
theorem call_imp {asp : Asp} {ta : TA} (ha : ∀ σ H Q, gA c L σ H Q → ta σ H Q) (σ : L2.St) (H : Hp) (Q : VK) (E : XK) (h : gE c (aCall asp L) σ H Q) : tCall (pSp c.K asp) [] E ta σ H Q := by
  obtain ⟨Γ, P, at_, p, k⟩ := h
  refine ha _ _ _ ⟨Γ, _, at_, p, fun vs H1 rs f1 at1 r1 q => ?_⟩
  show pSp c.K asp (vs ++ []) H1 Q E
  rw [List.append_nil]
  refine ⟨rs.map RV.arg, P, argRs_of (T := []) (fun _ h => by simp at h) r1, q, fun v H2 r f2 rr hr pr => ?_⟩
  have at2 := at1.ext f2
  refine k v H2 r (f1.trans f2.nil) at2 ?_ pr
  cases r with
  | dat d => exact rr
  | new ds =>
    obtain ⟨x, vs, rfl, h1, h2, h3, h4, h5⟩ := rr
    have n := (at1.fresh h1).1
    exact ⟨x, vs, rfl, f1.free n h1, n, h3, h4, h5⟩
  | vw ds => cases hr
  | al ds => cases hr
  | obj q => cases hr
theorem ae_call {CX : CXT} {asp : Asp} {k : Nat} {f : Addr} {fd : FuncData} {ps : List Str} {x : Str} {E : XK} (F : FnOk X.prog X.w X.K X.mg X.base CX k f fd ps (pSp X.K asp)) (hr : Room k X.A) (hg : Gl X x) (hm : X.mg x = some (.ref f)) (hk : PySem.W.keepIn X.K (.ref f) = true) (hb : Binds X.K fd ps [])
    (hx : Passes CX X E) (ha : PAa X c (e :: es) L) (hdb : (x == ("__debug__" : Str)) = false := by decide) (he : starEach (e :: es) X.env = (false, eval e X.env) :: starEach es X.env := by rfl) (hpl : (backTo pos (starEach es X.env)).any (·.1) = false := by rfl)
    (hK : X.K = c.K := by rfl) : PEa X c (.Call (.Name x p) (e :: es) [] pos) (aCall asp L) :=
  ⟨pe_imp (pe_call F hr hg hm hk hb .nil hx ha.pa hdb he hpl) fun σ H Q h => by
    have := call_imp (asp := asp) (ta := gA c L) (fun _ _ _ h => h) σ H Q E h
    rw [hK]
    exact this⟩
/-- a call that hands on the list st -/
def aCallD (st : Addr) (asp : Addr → Asp) (L : XA) : XE := fun Γ P => L Γ fun rs => asp st (rs.map RV.arg) P
theorem callD_imp {st : Addr} {T : List Addr} {W : Addr → (Hp → Prop) → Prop} {asp : Addr → Asp} {ta : TA} (hS : c.S = st :: T) (hW : W st c.J) (ha : ∀ σ H Q, gA c L σ H Q → ta σ H Q) (σ : L2.St) (H : Hp) (Q : VK) (E : XK) (h : gE c (aCallD st asp L) σ H Q) : tCall (dSp c.K T W asp) [] E ta σ H Q := by
  obtain ⟨Γ, P, at_, p, k⟩ := h
  refine ha _ _ _ ⟨Γ, _, at_, p, fun vs H1 rs f1 at1 r1 q => ?_⟩
  show dSp c.K T W asp (vs ++ []) H1 Q E
  rw [List.append_nil]
  refine ⟨st, c.J, rs.map RV.arg, P, hW, at1.J, argRs_of (T := st :: T) (fun _ h => by rw [hS]; exact h) r1, q, fun v H2 r f2 j2 rr hr pr => ?_⟩
  have f2' : Fx c.S H1 H2 := by rw [hS]; exact f2
  have at2 := at1.grow f2' j2
  refine k v H2 r (f1.trans f2') at2 ?_ pr
  cases r with
  | dat d => exact rr
  | new ds =>
    obtain ⟨x, vs, rfl, h1, h2, h3, h4, h5⟩ := rr
    have n := (at1.fresh h1).1
    exact ⟨x, vs, rfl, f1.free n h1, n, h3, h4, h5⟩
  | vw ds => cases hr
  | al ds => cases hr
  | obj q => cases hr
theorem ae_callD {CX : CXT} {st : Addr} {T : List Addr} {W : Addr → (Hp → Prop) → Prop} {asp : Addr → Asp} {k : Nat} {f : Addr} {fd : FuncData} {ps : List Str} {x : Str} {E : XK} (hS : c.S = st :: T) (hW : W st c.J) (F : FnOk X.prog X.w X.K X.mg X.base CX k f fd ps (dSp X.K T W asp)) (hr : Room k X.A) (hg : Gl X x) (hm : X.mg x = some (.ref f))
    (hk : PySem.W.keepIn X.K (.ref f) = true) (hb : Binds X.K fd ps []) (hx : Passes CX X E) (ha : PAa X c (e :: es) L) (hdb : (x == ("__debug__" : Str)) = false := by decide) (he : starEach (e :: es) X.env = (false, eval e X.env) :: starEach es X.env := by rfl)
    (hpl : (backTo pos (starEach es X.env)).any (·.1) = false := by rfl) (hK : X.K = c.K := by rfl) : PEa X c (.Call (.Name x p) (e :: es) [] pos) (aCallD st asp L) :=
  ⟨pe_imp (pe_call F hr hg hm hk hb .nil hx ha.pa hdb he hpl) fun σ H Q h => by
    have := callD_imp (asp := asp) (ta := gA c L) hS hW (fun _ _ _ h => h) σ H Q E h
    rw [hK]
    exact this⟩

/-! ### built-ins -/
abbrev XC := List RV → (RV → Prop) → Prop
def gC (c : Ctx) (o : XC) : List V → Hp → VK → Prop := fun vs H Q => ∃ rs P, (∃ σ Γ, At c σ H Γ) ∧ Paired (RO c H) vs rs ∧ o rs P ∧ ∀ z H' r, Fx [] H H' → RR c H H' z r → P r → Q z H'
structure CallA (X : Cx) (c : Ctx) (f : Value) (o : XC) : Prop where
  cr : CallR X f (gC c o)
theorem callR_imp {f : Value} {r r' : List V → Hp → VK → Prop} (h : CallR X f r) (w : ∀ x H Q, r' x H Q → r x H Q) : CallR X f r' := fun pins s σ H x us Q I rx q => h pins s σ H x us Q I rx (w _ _ _ q)
theorem callR_or {f : Value} {r r' : List V → Hp → VK → Prop} (h : CallR X f r) (h' : CallR X f r') : CallR X f (fun x H Q => r x H Q ∨ r' x H Q) := fun pins s σ H x us Q I rx q => by
  rcases q with q | q
  · exact h pins s σ H x us Q I rx q
  · exact h' pins s σ H x us Q I rx q
theorem CallA.or {f : Value} {o o' : XC} (h : CallA X c f o) (h' : CallA X c f o') : CallA X c f (fun x P => o x P ∨ o' x P) := ⟨callR_imp (callR_or h.cr h'.cr) fun x H Q ⟨rs, P, a, b, e, k⟩ => by
  rcases e with e | e
  · exact .inl ⟨rs, P, a, b, e, k⟩
  · exact .inr ⟨rs, P, a, b, e, k⟩⟩
theorem RRs.ros {H H1 : Hp} : ∀ {vs : List V} {rs : List RV}, RRs c H H1 vs rs → Paired (RO c H1) vs rs
  | _, _, .nil => .nil
  | _, _, .cons h t => .cons h.ro (RRs.ros t)
def aBlt (o : XC) (L : XA) : XE := fun Γ P => L Γ fun rs => o rs P
theorem blt_imp {o : XC} (σ : L2.St) (H : Hp) (Q : VK) (h : gE c (aBlt o L) σ H Q) : tCB (gC c o) (gA c L) σ H Q := by
  obtain ⟨Γ, P, at_, p, k⟩ := h
  refine ⟨Γ, _, at_, p, fun vs H1 rs f1 at1 r1 q => ?_⟩
  refine ⟨rs, P, ⟨_, _, at1⟩, r1.ros, q, fun z H2 r f2 r2 pr => ?_⟩
  exact k z H2 r (f1.trans f2.nil) (at1.ext f2) (r2.back f1) pr
theorem ae_blt {x : Str} {id : String} {o : XC} (hc : CallA X c (.builtin id) o) (hg : Gl X x) (hm : X.mg x = none) (hv : bootBuiltins x = some (.builtin id)) (ha : PAa X c (e :: es) L) (hn : x ≠ "__name__" := by decide) (hdb : (x == ("__debug__" : Str)) = false := by decide)
    (he : starEach (e :: es) X.env = (false, eval e X.env) :: starEach es X.env := by rfl) (hpl : (backTo pos (starEach es X.env)).any (·.1) = false := by rfl) : PEa X c (.Call (.Name x p) (e :: es) [] pos) (aBlt o L) :=
  ⟨pe_imp (pe_callB hc.cr hg hm hv ha.pa hn hdb he hpl) blt_imp⟩
theorem ae_ty {x : Str} {T : String} {o : XC} (hc : CallA X c (.type T) o) (hg : Gl X x) (hm : X.mg x = none) (hv : bootBuiltins x = some (.type T)) (ha : PAa X c (e :: es) L) (hn : x ≠ "__name__" := by decide) (hdb : (x == ("__debug__" : Str)) = false := by decide)
    (he : starEach (e :: es) X.env = (false, eval e X.env) :: starEach es X.env := by rfl) (hpl : (backTo pos (starEach es X.env)).any (·.1) = false := by rfl) : PEa X c (.Call (.Name x p) (e :: es) [] pos) (aBlt o L) :=
  ⟨pe_imp (pe_callTy hc.cr hg hm hv ha.pa hn hdb he hpl) blt_imp⟩
theorem ros_one {H : Hp} {vs : List V} {r : RV} (h : Paired (RO c H) vs [r]) : ∃ v, vs = [v] ∧ RO c H v r := by
  cases h with
  | cons a t => cases t; exact ⟨_, rfl, a⟩
theorem ros_two {H : Hp} {vs : List V} {r q : RV} (h : Paired (RO c H) vs [r, q]) : ∃ v u, vs = [v, u] ∧ RO c H v r ∧ RO c H u q := by
  cases h with
  | cons a t =>
    obtain ⟨u, rfl, b⟩ := ros_one t
    exact ⟨_, u, rfl, a, b⟩

/-- len -/
def lenOf : RV → Option Nat
  | .dat (.tuple xs) => some xs.length
  | .dat (.str x) => if x.length ≤ sizeLine then some x.length else none
  | .new xs => some xs.length
  | .vw xs => some xs.length
  | .al xs => some xs.length
  | _ => none
theorem lenOf_ok {H : Hp} {v : V} {r : RV} {n : Nat} (h : RO c H v r) (e : lenOf r = some n) : LenV c.K v H n := by
  cases r with
  | dat d =>
    cases d with
    | tuple xs =>
      obtain ⟨a, vs, rfl, t1, d1, i1⟩ := h.tup
      cases e
      exact .inr ⟨vs, t1, (dpAll_length d1).symm⟩
    | str x =>
      cases h.str
      have e2 : (if x.length ≤ sizeLine then some x.length else none) = some n := e
      by_cases hx : x.length ≤ sizeLine
      · rw [if_pos hx] at e2
        cases e2
        exact ⟨hx, rfl⟩
      · rw [if_neg hx] at e2
        cases e2
    | none => cases e
    | bool i => cases e
    | int i => cases e
    | list xs => cases e
    | dict xs => cases e
  | new xs =>
    obtain ⟨a, vs, rfl, _, t1, d1, i1⟩ := h.lst rfl
    cases e
    exact .inl ⟨vs, t1, (dpAll_length d1).symm⟩
  | vw xs =>
    obtain ⟨a, vs, rfl, _, t1, d1, i1⟩ := h.lst rfl
    cases e
    exact .inl ⟨vs, t1, (dpAll_length d1).symm⟩
  | al xs =>
    obtain ⟨a, vs, rfl, _, t1, d1, i1⟩ := h.lst rfl
    cases e
    exact .inl ⟨vs, t1, (dpAll_length d1).symm⟩
  | obj p => cases e
def kLen : XC := fun rs P => ∃ r n, rs = [r] ∧ lenOf r = some n ∧ P (.dat (.int n))
theorem ka_len (hK : X.K = c.K := by rfl) : CallA X c (.builtin "len") kLen := ⟨callR_imp call_len fun vs H Q ⟨rs, P, _, h, ⟨r, n, e, el, p⟩, k⟩ => by
  subst e
  obtain ⟨v, rfl, ro⟩ := ros_one h
  rw [hK]
  exact ⟨v, n, rfl, lenOf_ok ro el, k _ H _ (Fx.refl H) (rr_int _) p⟩⟩
def kAbs : XC := fun rs P => ∃ i, rs = [.dat (.int i)] ∧ P (.dat (.int (if i < 0 then -i else i)))
theorem ka_abs : CallA X c (.builtin "abs") kAbs := ⟨callR_imp call_abs fun vs H Q ⟨rs, P, _, h, ⟨i, e, p⟩, k⟩ => by
  subst e
  obtain ⟨v, rfl, ro⟩ := ros_one h
  cases ro.int
  exact ⟨i, rfl, k _ H _ (Fx.refl H) (rr_int _) p⟩⟩
/-- max, min: of two ints, or of a list of ints -/
def intsOf : List PyData → Option (List Int)
  | [] => some []
  | .int i :: r => (intsOf r).map (i :: ·)
  | _ :: _ => none
theorem intsOf_map (ns : List Int) : intsOf (ns.map .int) = some ns := by
  induction ns with
  | nil => rfl
  | cons n ns ih => rw [List.map_cons, intsOf, ih]; rfl
theorem intsOf_ok {K : PySem.W.Frag} {H : Hp} : ∀ {vs : List V} {ds : List PyData} {ns : List Int}, DpAll K H vs ds → intsOf ds = some ns → vs = ns.map V.int
  | _, _, ns, .nil, e => by cases e; rfl
  | _, _, ns, .cons (d := d) h t, e => by
    cases d with
    | int i =>
      unfold intsOf at e
      rw [Option.map_eq_some_iff] at e
      obtain ⟨ms, e1, e2⟩ := e
      subst e2
      cases h
      rw [intsOf_ok t e1, List.map_cons]
    | none => cases e
    | bool b => cases e
    | str b => cases e
    | tuple b => cases e
    | list b => cases e
    | dict b => cases e
def kMax : XC := fun rs P => (∃ i j, rs = [.dat (.int i), .dat (.int j)] ∧ P (.dat (.int (max i j)))) ∨ ∃ r ds ns, rs = [r] ∧ r.lst? = some ds ∧ intsOf ds = some ns ∧ 0 < ns.length ∧ ∀ m, m ∈ ns → (∀ y, y ∈ ns → y ≤ m) → P (.dat (.int m))
def kMin : XC := fun rs P => (∃ i j, rs = [.dat (.int i), .dat (.int j)] ∧ P (.dat (.int (min i j)))) ∨ ∃ r ds ns, rs = [r] ∧ r.lst? = some ds ∧ intsOf ds = some ns ∧ 0 < ns.length ∧ ∀ m, m ∈ ns → (∀ y, y ∈ ns → m ≤ y) → P (.dat (.int m))
theorem ka_max (hc : X.calm = true) (hK : X.K = c.K := by rfl) : CallA X c (.builtin "max") kMax := ⟨callR_imp (callR_or (call_max2 hc) (cr_max hc)) fun vs H Q ⟨rs, P, _, h, o, k⟩ => by
  rcases o with ⟨i, j, e, p⟩ | ⟨r, ds, ns, e, e1, e2, h0, p⟩
  · subst e
    obtain ⟨v, u, rfl, r1, r2⟩ := ros_two h
    cases r1.int
    cases r2.int
    refine .inl ⟨i, j, rfl, ?_⟩
    rw [show (if j > i then j else i) = max i j by omega]
    exact k _ H _ (Fx.refl H) (rr_int _) p
  · subst e
    obtain ⟨v, rfl, ro⟩ := ros_one h
    obtain ⟨a, vs, rfl, _, t1, d1, i1⟩ := ro.lst e1
    cases intsOf_ok d1 e2
    rw [hK]
    exact .inr ⟨a, ns, rfl, t1, h0, fun m h1 h2 => k _ H _ (Fx.refl H) (rr_int _) (p m h1 h2)⟩⟩
theorem ka_min (hc : X.calm = true) (hK : X.K = c.K := by rfl) : CallA X c (.builtin "min") kMin := ⟨callR_imp (callR_or (call_min2 hc) (cr_min hc)) fun vs H Q ⟨rs, P, _, h, o, k⟩ => by
  rcases o with ⟨i, j, e, p⟩ | ⟨r, ds, ns, e, e1, e2, h0, p⟩
  · subst e
    obtain ⟨v, u, rfl, r1, r2⟩ := ros_two h
    cases r1.int
    cases r2.int
    refine .inl ⟨i, j, rfl, ?_⟩
    rw [show (if j < i then j else i) = min i j by omega]
    exact k _ H _ (Fx.refl H) (rr_int _) p
  · subst e
    obtain ⟨v, rfl, ro⟩ := ros_one h
    obtain ⟨a, vs, rfl, _, t1, d1, i1⟩ := ro.lst e1
    cases intsOf_ok d1 e2
    rw [hK]
    exact .inr ⟨a, ns, rfl, t1, h0, fun m h1 h2 => k _ H _ (Fx.refl H) (rr_int _) (p m h1 h2)⟩⟩
def kInt : XC := fun rs P => ∃ i, rs = [.dat (.int i)] ∧ P (.dat (.int i))
theorem ka_int : CallA X c (.type "int") kInt := ⟨callR_imp call_int1 fun vs H Q ⟨rs, P, _, h, ⟨i, e, p⟩, k⟩ => by
  subst e
  obtain ⟨v, rfl, ro⟩ := ros_one h
  cases ro.int
  exact .inl ⟨i, rfl, k _ H _ (Fx.refl H) (rr_int _) p⟩⟩
/-- sum of ints and bools -/
def numOf : PyData → Option Int
  | .int i => some i
  | .bool b => some (if b = true then 1 else 0)
  | _ => none
def numsOf2 : List PyData → Option (List Int)
  | [] => some []
  | d :: r => match numOf d, numsOf2 r with
    | some i, some l => some (i :: l)
    | _, _ => none
def seqOf : RV → Option (List PyData)
  | .dat (.tuple xs) => some xs
  | .new xs => some xs
  | .vw xs => some xs
  | .al xs => some xs
  | _ => none
def vNum : V → Option Int
  | .int i => some i
  | .bl b => some (if b = true then 1 else 0)
  | _ => none
def rSumA (K : PySem.W.Frag) : List V → Hp → VK → Prop := fun vs H Q => ∃ (a : Addr) (xs : List V) (ns : List Int), vs = [V.ref a] ∧ (SqL K H a xs ∨ SqT K H a xs) ∧ Paired (fun v i => vNum v = some i) xs ns ∧ Q (.int ns.sum) H
theorem preSum_take (ns : List Int) : ∀ n, n ≤ ns.length → preSum (fun i => ns.getD i 0) n = (ns.take n).sum
  | 0, _ => by simp [preSum]
  | n + 1, h => by
    rw [preSum, preSum_take ns n (by omega), List.take_add_one, List.sum_append]
    have e : ns[n]? = some ns[n] := List.getElem?_eq_getElem (by omega)
    rw [e]
    simp [List.getD, e]
theorem vnum_rel {v : V} {u : Value} {i : Int} (r : RelV v u) (h : vNum v = some i) : NumOf i u := by
  cases v with
  | int j =>
    obtain ⟨t, rfl⟩ := r
    cases h
    exact .inl ⟨t, rfl⟩
  | bl b =>
    cases r
    cases h
    exact .inr ⟨b, rfl, rfl⟩
  | non => cases h
  | str _ => cases h
  | byt _ => cases h
  | flt _ => cases h
  | ref _ => cases h
  | ty _ => cases h
theorem vnums_at : ∀ {xs : List V} {us : List Value} {ns : List Int} {i : Nat} {u : Value}, Vals xs us → Paired (fun v i => vNum v = some i) xs ns → us[i]? = some u → NumOf (ns.getD i 0) u
  | _, _, _, i, u, .nil, _, e => by simp at e
  | _, _, _, 0, u, .cons r _, .cons h _, e => by
    simp at e
    subst e
    simpa using vnum_rel r h
  | _, _, _, i + 1, u, .cons _ t, .cons _ k, e => by
    have := vnums_at (i := i) t k (by simpa using e)
    simpa using this
theorem cr_sumA (hc : X.calm = true) : CallR X (.builtin "sum") (rSumA X.K) := by
  intro pins s σ H vs us Q I r h
  obtain ⟨a, xs, ns, rfl, hs, hn, q⟩ := h
  have hlen : xs.length = ns.length := by
    clear hs q
    induction hn with
    | nil => rfl
    | cons _ _ ih => simp [ih]
  rw [Vals.ref1 r]
  refine call_sum_walkAnyB ?_
  rcases hs with hs | hs
  · obtain ⟨its, rv, hl, _⟩ := I.list hs
    have hlt : a < s.heap.objs.size := by obtain ⟨_, e, _⟩ := hl.isList; exact Heap.lt_size e
    refine iter_any hl.isList fun s2 e2 st hne => ?_
    subst e2
    refine ⟨_, _, _, _, _, _, _, fun i => ns.getD i 0, rfl, (Walks.list (A := X.A.in1) (I.ok.hd hc) _ a hne its.toArray).toS, st, fun b hb => ?_, fun i v hv => vnums_at rv hn (by simpa using hv), fun s' t' hm => ?_⟩
    · show b < (s.heap.push _).objs.size
      rw [Heap.size_push]
      rcases List.mem_cons.mp hb with e | hb
      · rw [e]; exact Nat.lt_succ_self _
      · rcases List.mem_cons.mp hb with e | hb
        · rw [e]; exact Nat.lt_succ_of_lt hlt
        · cases hb
    · rw [preSum_take ns _ (by rw [List.size_toArray, ← rv.length, hlen]; exact Nat.le_refl _), List.take_of_length_le (by rw [List.size_toArray, ← rv.length, hlen]; exact Nat.le_refl _)]
      refine ⟨.int _, H, ?_, ⟨_, rfl⟩, q⟩
      have I2 : Inv X pins σ H { s with heap := s'.heap, toks := s'.toks } := I.kept fun b o eo => hm.heap b o (fun hmem => ?_) (Heap.get?_push_of_some _ eo)
      · have e : ({ s with heap := s'.heap, toks := s'.toks } : Shared) = s' := by
          obtain ⟨h1, h2, h3, h4, h5⟩ := s'
          have g1 := hm.gens
          have g2 := hm.drawn
          have g3 := hm.os
          simp only at g1 g2 g3 ⊢
          rw [g1, g2, g3]
        rw [e] at I2
        exact I2
      · rcases List.mem_cons.mp hmem with e1 | hmem
        · exact absurd (e1 ▸ Heap.lt_size eo) (Nat.lt_irrefl _)
        · cases hmem
  · obtain ⟨its, rv, ht, _⟩ := I.tuple hs
    have hlt : a < s.heap.objs.size := ht.lt
    have hne : a ≠ s.heap.objs.size := Nat.ne_of_lt hlt
    refine wpAny_pyIter_tuple ht ⟨_, _, _, _, _, _, _, fun i => ns.getD i 0, rfl, (Walks.tuple (A := X.A.in1) (I.ok.hd hc) _ a hne its.toArray).toS, ⟨⟨_, Heap.get?_push_size _ rfl, rfl, rfl⟩, ?_⟩, fun b hb => ?_, fun i v hv => vnums_at rv hn (by simpa using hv), fun s' t' hm => ?_⟩
    · exact ht.push _
    · show b < (s.heap.push _).objs.size
      rw [Heap.size_push]
      rcases List.mem_cons.mp hb with e | hb
      · rw [e]; exact Nat.lt_succ_self _
      · rcases List.mem_cons.mp hb with e | hb
        · rw [e]; exact Nat.lt_succ_of_lt hlt
        · cases hb
    · rw [preSum_take ns _ (by rw [List.size_toArray, ← rv.length, hlen]; exact Nat.le_refl _), List.take_of_length_le (by rw [List.size_toArray, ← rv.length, hlen]; exact Nat.le_refl _)]
      refine ⟨.int _, H, ?_, ⟨_, rfl⟩, q⟩
      have I2 : Inv X pins σ H { s with heap := s'.heap, toks := s'.toks } := I.kept fun b o eo => hm.heap b o (fun hmem => ?_) (Heap.get?_push_of_some _ eo)
      · have e : ({ s with heap := s'.heap, toks := s'.toks } : Shared) = s' := by
          obtain ⟨h1, h2, h3, h4, h5⟩ := s'
          have g1 := hm.gens
          have g2 := hm.drawn
          have g3 := hm.os
          simp only at g1 g2 g3 ⊢
          rw [g1, g2, g3]
        rw [e] at I2
        exact I2
      · rcases List.mem_cons.mp hmem with e1 | hmem
        · exact absurd (e1 ▸ Heap.lt_size eo) (Nat.lt_irrefl _)
        · cases hmem
end
end Ab

namespace Ab
open PySem PySem.Spec PyProof.Rows L2
section
variable {X : Cx} {c : Ctx} {e a b : Expr} {es : List Expr} {A B : XE} {L : XA} {pos p : Pos}

theorem seqOf_ok {H : Hp} {v : V} {r : RV} {ds : List PyData} (h : RO c H v r) (e : seqOf r = some ds) : ∃ a vs, v = .ref a ∧ (SqL c.K H a vs ∨ SqT c.K H a vs) ∧ DpAll c.K H vs ds ∧ immAll ds = true := by
  cases r with
  | dat d =>
    cases d with
    | tuple xs =>
      cases e
      obtain ⟨a, vs, rfl, t1, d1, i1⟩ := h.tup
      exact ⟨a, vs, rfl, .inr t1, d1, i1⟩
    | none => cases e
    | bool i => cases e
    | int i => cases e
    | str i => cases e
    | list xs => cases e
    | dict xs => cases e
  | new xs =>
    cases e
    obtain ⟨a, vs, rfl, _, t1, d1, i1⟩ := h.lst rfl
    exact ⟨a, vs, rfl, .inl t1, d1, i1⟩
  | vw xs =>
    cases e
    obtain ⟨a, vs, rfl, _, t1, d1, i1⟩ := h.lst rfl
    exact ⟨a, vs, rfl, .inl t1, d1, i1⟩
  | al xs =>
    cases e
    obtain ⟨a, vs, rfl, _, t1, d1, i1⟩ := h.lst rfl
    exact ⟨a, vs, rfl, .inl t1, d1, i1⟩
  | obj p => cases e
theorem numsOf2_ok {K : PySem.W.Frag} {H : Hp} : ∀ {vs : List V} {ds : List PyData} {ns : List Int}, DpAll K H vs ds → numsOf2 ds = some ns → Paired (fun v i => vNum v = some i) vs ns
  | _, _, ns, .nil, e => by cases e; exact .nil
  | _, _, ns, .cons (d := d) (ds := r) h t, e => by
    unfold numsOf2 at e
    cases e1 : numOf d with
    | none => rw [e1] at e; simp at e
    | some i =>
      cases e2 : numsOf2 r with
      | none => rw [e1, e2] at e; simp at e
      | some l =>
        rw [e1, e2] at e
        cases e
        refine .cons ?_ (numsOf2_ok t e2)
        cases h with
        | int j => exact e1
        | bl j => exact e1
        | non => cases e1
        | str j => cases e1
        | lst _ _ => cases e1
        | tup _ _ => cases e1
def kSum : XC := fun rs P => ∃ r ds ns, rs = [r] ∧ seqOf r = some ds ∧ numsOf2 ds = some ns ∧ P (.dat (.int ns.sum))
theorem ka_sum (hc : X.calm = true) (hK : X.K = c.K := by rfl) : CallA X c (.builtin "sum") kSum := ⟨callR_imp (cr_sumA hc) fun vs H Q ⟨rs, P, _, h, ⟨r, ds, ns, e, e1, e2, p⟩, k⟩ => by
  subst e
  obtain ⟨v, rfl, ro⟩ := ros_one h
  obtain ⟨a, vs, rfl, t1, d1, i1⟩ := seqOf_ok ro e1
  rw [hK]
  exact ⟨a, vs, ns, rfl, t1, numsOf2_ok d1 e2, k _ H _ (Fx.refl H) (rr_int _) p⟩⟩
/-- list(..) of a list, a tuple -/
def kList : XC := fun rs P => ∃ r ds, rs = [r] ∧ seqOf r = some ds ∧ P (.new ds)
theorem ka_list (hK : X.K = c.K := by rfl) : CallA X c (.type "list") kList := ⟨callR_imp call_list_of fun vs H Q ⟨rs, P, ⟨σ, Γ, at_⟩, h, ⟨r, ds, e, e1, p⟩, k⟩ => by
  subst e
  obtain ⟨v, rfl, ro⟩ := ros_one h
  obtain ⟨a, vs, rfl, t1, d1, i1⟩ := seqOf_ok ro e1
  rw [hK]
  refine ⟨a, vs, rfl, t1, fun l hl => ?_⟩
  have f : Fx [] H (upd H l (.lst vs)) := Fx.new hl
  exact k _ _ _ f (rr_new hl (at_.fresh hl).1 upd_same (dpAll_mono f.tup _ _ i1 d1) i1) p⟩
/-- tuple(..) of a list, a tuple -/
def kTuple : XC := fun rs P => ∃ r ds, rs = [r] ∧ seqOf r = some ds ∧ P (.dat (.tuple ds))
theorem ka_tuple (hK : X.K = c.K := by rfl) : CallA X c (.type "tuple") kTuple := ⟨callR_imp call_tuple_of fun vs H Q ⟨rs, P, _, h, ⟨r, ds, e, e1, p⟩, k⟩ => by
  subst e
  obtain ⟨v, rfl, ro⟩ := ros_one h
  rw [hK]
  obtain ⟨a, vs, rfl, t1, d1, i1⟩ := seqOf_ok ro e1
  rcases t1 with t1 | t1
  · refine ⟨a, vs, rfl, .inl ⟨t1, fun l hl => ?_⟩⟩
    have f : Fx [] H (upd H l (.tup vs)) := Fx.new hl
    exact k _ _ _ f (rr_tup upd_same (dpAll_mono f.tup _ _ i1 d1) i1) p
  · exact ⟨a, vs, rfl, .inr ⟨t1, k _ H _ (Fx.refl H) (rr_dat ⟨.tup t1 d1, by simpa [imm] using i1⟩) p⟩⟩⟩
/-- isinstance(x, bool), isinstance(x, tuple): the second argument a name of a built-in class -/
def isTyp (n : String) : V → Prop := fun v => v = .ty n
def isinst (n : String) : PyData → Option Bool
  | .none => kitB "NoneType" n
  | .bool _ => kitB "bool" n
  | .int _ => kitB "int" n
  | .str _ => kitB "str" n
  | .tuple _ => kitB "tuple" n
  | _ => Option.none
theorem tyX_of {H : Hp} {v : V} {d : PyData} (h : Dp c.K H v d) (hi : imm d = true) : ∃ t : String, TyX c.K H v (.type t) ∧ ∀ n, isinst n d = kitB t n := by
  cases h with
  | non => exact ⟨"NoneType", .base .non, fun n => rfl⟩
  | bl b => exact ⟨"bool", .base (.bl b), fun n => rfl⟩
  | int i => exact ⟨"int", .base (.int i), fun n => rfl⟩
  | str x => exact ⟨"str", .base (.str x), fun n => rfl⟩
  | tup hs ha =>
    refine ⟨"tuple", ?_, fun n => rfl⟩
    rcases hs with (hs | ⟨o, hs⟩) | ⟨o, its, n, h1, h2, _⟩
    · exact .base (.tup hs)
    · exact .fTuple hs
    · exact .kTuple h1 h2
  | lst _ _ => simp [imm] at hi
def kIsi : XC := fun rs P => ∃ d n b, rs = [.dat d, .obj (isTyp n)] ∧ isinst n d = some b ∧ P (.dat (.bool b))
theorem ka_isi (hK : X.K = c.K := by rfl) : CallA X c (.builtin "isinstance") kIsi := ⟨callR_imp call_isi fun vs H Q ⟨rs, P, _, h, ⟨d, n, b, e, e1, p⟩, k⟩ => by
  subst e
  obtain ⟨v, u, rfl, r1, r2⟩ := ros_two h
  have e2 : u = .ty n := r2.choose_spec
  subst e2
  obtain ⟨t, ty, ht⟩ := tyX_of r1.dat.1 r1.dat.2
  rw [hK]
  rw [ht] at e1
  exact ⟨v, _, _, _, b, rfl, .ty n, ty, kit_ty e1, k _ H _ (Fx.refl H) (rr_bl _) p⟩⟩
/-- a built-in class's name as a value -/
def aTy (n : String) : XE := fun _ P => P (.obj (isTyp n))
theorem ae_tyname {x : Str} {n : String} (hg : Gl X x) (hm : X.mg x = none) (hv : bootBuiltins x = some (.type n)) (hn : x ≠ "__name__" := by decide) (hd : (x == ("__debug__" : Str)) = false := by decide) : PEa X c (.Name x pos) (aTy n) :=
  ⟨pe_imp (pe_bltn (v := .ty n) hg hm hv rfl hn hd) fun σ H Q ⟨Γ, P, at_, p, k⟩ => k _ H (.obj (isTyp n)) (Fx.refl H) at_ rfl p⟩

/-! ### items, slices -/
theorem dpAll_atI {K : PySem.W.Frag} {H : Hp} {vs : List V} {ds : List PyData} {i : Int} {d : PyData} (h : DpAll K H vs ds) (e : atI ds i = some d) : ∃ v, atI vs i = some v ∧ Dp K H v d := by
  unfold atI at e ⊢
  rw [dpAll_length h]
  cases q : ixN ds.length i with
  | none => rw [q] at e; cases e
  | some j =>
    rw [q] at e
    exact dpAll_get h e
theorem atI_mem {α : Type} {xs : List α} {i : Int} {v : α} (h : atI xs i = some v) : v ∈ xs := by
  obtain ⟨j, _, e, _⟩ := atI_get h
  exact List.mem_of_getElem? e
def oIx : XO := fun x y P => (∃ ds i d, seqOf x = some ds ∧ y = .dat (.int i) ∧ atI ds i = some d ∧ P (.dat d)) ∨ ∃ z i k, x = .dat (.str z) ∧ y = .dat (.int i) ∧ z.length ≤ sizeLine ∧ atI z.cps.toList i = some k ∧ P (.dat (.str ⟨#[k]⟩))
theorem ae_ix (ha : PEa X c a A) (hb : PEa X c b B) (hs : PlainIx b := by exact fun _ _ => rfl) (hK : X.K = c.K := by rfl) : PEa X c (.Subscript a b pos) (aOp oIx A B) :=
  ⟨pe_imp (pe_ix ix_seq ha.pe hb.pe hs) (two_imp (fun x y H Q ⟨rx, ry, P, _, r1, r2, o, k⟩ => by
    rw [hK]
    rcases o with ⟨ds, i, d, e1, e2, e3, p⟩ | ⟨z, i, j, e1, e2, h1, h2, p⟩
    · subst e2
      cases r2.int
      obtain ⟨a, vs, rfl, t1, d1, i1⟩ := seqOf_ok r1 e1
      obtain ⟨v, hv, dv⟩ := dpAll_atI d1 e3
      have q := k v H _ (Fx.refl H) (rr_dat ⟨dv, immAll_mem i1 (atI_mem e3)⟩) p
      rcases t1 with t1 | t1
      · exact .inl ⟨a, vs, i, v, rfl, rfl, t1, hv, q⟩
      · exact .inr (.inl ⟨a, vs, i, v, rfl, rfl, t1, hv, q⟩)
    · subst e1 e2
      cases r1.str
      cases r2.int
      exact .inr (.inr ⟨z, i, j, rfl, rfl, h1, h2, k _ H _ (Fx.refl H) (rr_str _) p⟩)) (fun _ _ _ h => h) (fun _ _ _ h => h))⟩
/-- a[lo:hi] -/
abbrev XOp := Gam → (Option Int → Prop) → Prop
def gO2 (c : Ctx) (A : XOp) : TO := fun σ H Q => ∃ Γ P, At c σ H Γ ∧ A Γ P ∧ ∀ b H', Fx c.S H H' → At c σ H' Γ → P b → Q b H'
structure POa (X : Cx) (c : Ctx) (e : Option Expr) (A : XOp) : Prop where
  po : PO X e (gO2 c A)
theorem po_imp {e : Option Expr} {t u : TO} (h : PO X e t) (w : ∀ σ H Q, u σ H Q → t σ H Q) : PO X e u := ⟨fun pins s σ H Q I hu => h.run pins s σ H Q I (w _ _ _ hu)⟩
def aNoPart : XOp := fun _ P => P none
def aPart (A : XE) : XOp := fun Γ P => A Γ fun r => ∃ i, r = .dat (.int i) ∧ P (some i)
theorem ao_none : POa X c none aNoPart := ⟨po_imp po_none fun σ H Q ⟨Γ, P, at_, p, k⟩ => k _ H (Fx.refl H) at_ p⟩
theorem ao_some (ha : PEa X c a A) : POa X c (some a) (aPart A) := ⟨po_imp (po_some ha.pe) fun σ H Q ⟨Γ, P, at_, p, k⟩ => ⟨Γ, _, at_, p, fun v H1 rx f1 at1 r1 ⟨i, e, q⟩ => by
  subst e
  exact ⟨i, r1.ro.int, k _ H1 f1 at1 q⟩⟩⟩
def cutD {α : Type} (xs : List α) (lo hi : Option Int) : List α := (xs.drop (HT.sIx xs.length 0 lo)).take (HT.sIx xs.length xs.length hi - HT.sIx xs.length 0 lo)
theorem cutD_len {α : Type} (xs : List α) (lo hi : Option Int) : (cutD xs lo hi).length ≤ xs.length := by
  unfold cutD
  rw [List.length_take, List.length_drop]
  omega
theorem dpAll_cut {K : PySem.W.Frag} {H : Hp} {vs : List V} {ds : List PyData} (h : DpAll K H vs ds) (lo hi : Option Int) : DpAll K H (cutV vs lo hi) (cutD ds lo hi) := by
  unfold cutV cutD
  rw [dpAll_length h]
  exact dpAll_take _ (dpAll_drop _ h)
theorem immAll_cut {ds : List PyData} (h : immAll ds = true) (lo hi : Option Int) : immAll (cutD ds lo hi) = true := immAll_take _ (immAll_drop _ h)
abbrev XSl := RV → Option Int → Option Int → (RV → Prop) → Prop
def oSl : XSl := fun x lo hi P => (∃ ds, x.lst? = some ds ∧ P (.new (cutD ds lo hi))) ∨ (∃ ds, x = .dat (.tuple ds) ∧ P (.dat (.tuple (cutD ds lo hi)))) ∨ ∃ z, x = .dat (.str z) ∧ z.length ≤ sizeLine ∧ P (.dat (.str (cutS z lo hi)))
def aSl (A : XE) (lo hi : XOp) : XE := fun Γ P => A Γ fun x => lo Γ fun l => hi Γ fun h => oSl x l h P
theorem sIx_all (n : Nat) (lo hi : Option Int) {α : Type} (xs : List α) (hn : xs.length = n) (h : HT.sIx n 0 lo = 0 ∧ HT.sIx n n hi = n) : cutD xs lo hi = xs := by
  unfold cutD
  rw [hn, h.1, h.2, List.drop_zero, Nat.sub_zero]
  exact List.take_of_length_le (by omega)
theorem ae_slice {lo hi : Option Expr} {l h : XOp} {p2 : Pos} (ha : PEa X c a A) (hl : POa X c lo l) (hh : POa X c hi h) (hK : X.K = c.K := by rfl) : PEa X c (.Subscript a (.Slice lo hi none p2) pos) (aSl A l h) :=
  ⟨pe_imp (pe_slice ((sl_list (X := X)).or (sl_tupA.or sl_str)) ha.pe hl.po hh.po) fun σ H Q ⟨Γ, P, at_, p, k⟩ => by
    refine ⟨Γ, _, at_, p, fun v H1 rx f1 at1 r1 q1 => ⟨Γ, _, at1, q1, fun lo H2 f2 at2 q2 => ⟨Γ, _, at2, q2, fun hi H3 f3 at3 o => ?_⟩⟩⟩
    have f := (f1.trans f2).trans f3
    have ro := ((r1.mono f2).mono f3).ro
    rcases o with ⟨ds, e, pp⟩ | ⟨ds, e, pp⟩ | ⟨z, e, hz, pp⟩
    · obtain ⟨a, vs, rfl, _, t1, d1, i1⟩ := ro.lst e
      refine .inl ?_
      rw [hK]
      refine ⟨a, vs, rfl, t1, fun x hx => ?_⟩
      have g : Fx [] H3 (upd H3 x (.lst (cutV vs lo hi))) := Fx.new hx
      have n := (at3.fresh hx).1
      exact k _ _ _ (f.trans g.nil) (at3.ext g) (rr_new (f.free n hx) n upd_same (dpAll_mono g.tup _ _ (immAll_cut i1 _ _) (dpAll_cut d1 _ _)) (immAll_cut i1 _ _)) pp
    · subst e
      obtain ⟨a, vs, rfl, t1, d1, i1⟩ := ro.tup
      refine .inr (.inl ?_)
      rw [hK]
      refine ⟨a, vs, rfl, t1, fun hw => ?_, fun _ x hx => ?_⟩
      · rw [sIx_all vs.length lo hi ds (dpAll_length d1).symm hw] at pp
        exact k _ H3 _ f at3 (rr_dat ro.dat) pp
      · have g : Fx [] H3 (upd H3 x (.tup (cutV vs lo hi))) := Fx.new hx
        exact k _ _ _ (f.trans g.nil) (at3.ext g) (rr_tup upd_same (dpAll_mono g.tup _ _ (immAll_cut i1 _ _) (dpAll_cut d1 _ _)) (immAll_cut i1 _ _)) pp
    · subst e
      cases ro.str
      exact .inr (.inr ⟨z, rfl, hz, k _ H3 _ f at3 (rr_str _) pp⟩)⟩
/-- list(range(a, b)) -/
def rangeD (i j : Int) : List PyData := (List.range (j - i).toNat).map fun k => .int (i + (k : Nat))
theorem dpAll_rgV {K : PySem.W.Frag} {H : Hp} (i j : Int) : DpAll K H (rgV i j) (rangeD i j) := by
  unfold rgV rangeD
  generalize List.range (j - i).toNat = l
  induction l with
  | nil => exact .nil
  | cons x l ih => exact .cons (.int _) ih
theorem immAll_rangeD (i j : Int) : immAll (rangeD i j) = true := immAll_of fun x hx => by
  unfold rangeD at hx
  obtain ⟨k, _, rfl⟩ := List.mem_map.mp hx
  rfl
def aLRange (A B : XE) : XE := fun Γ P => A Γ fun x => B Γ fun y => ∃ i j, x = .dat (.int i) ∧ y = .dat (.int j) ∧ RgOk i j ∧ P (.new (rangeD i j))
theorem ae_lrange {p1 p2 pos1 pos2 : Pos} (hc : X.calm = true) (hl : Gl X "list") (hml : X.mg "list" = none) (hg : Gl X "range") (hm : X.mg "range" = none) (ha : PEa X c a A) (hb : PEa X c b B) (na : starEach [a, b] X.env = (false, eval a X.env) :: starEach [b] X.env := by rfl)
    (nb : starEach [b] X.env = (false, eval b X.env) :: starEach [] X.env := by rfl) (hp : (backTo pos1 (starEach [b] X.env)).any (·.1) = false := by rfl)
    (nl : starEach [.Call (.Name "range" p1) [a, b] [] pos1] X.env = (false, eval (.Call (.Name "range" p1) [a, b] [] pos1) X.env) :: starEach [] X.env := by rfl) :
    PEa X c (.Call (.Name "list" p2) [.Call (.Name "range" p1) [a, b] [] pos1] [] pos2) (aLRange A B) := ⟨pe_imp (pe_listRg hc hl hml (prg_2 hg hm ha.pe hb.pe na nb hp) nl) fun σ H Q ⟨Γ, P, at_, p, k⟩ => by
  refine ⟨Γ, _, at_, p, fun v H1 rx f1 at1 r1 q1 => ⟨Γ, _, at1, q1, fun u H2 ry f2 at2 r2 ⟨i, j, e1, e2, h, q⟩ => ?_⟩⟩
  subst e1 e2
  refine ⟨i, j, (r1.mono f2).ro.int, r2.ro.int, h, fun x hx => ?_⟩
  have f := f1.trans f2
  have g : Fx [] H2 (upd H2 x (.lst (rgV i j))) := Fx.new hx
  have n := (at2.fresh hx).1
  exact k _ _ _ (f.trans g.nil) (at2.ext g) (rr_new (f.free n hx) n upd_same (dpAll_rgV i j) (immAll_rangeD i j)) q⟩
end
end Ab

namespace Ab
open PySem PySem.Spec PyProof.Rows L2

/-! ### environments changed -/
section
variable {c : Ctx} {σ : L2.St} {H H' : Hp} {Γ : Gam}
/-- a slot takes data, a thing -/
theorem At.setD (a : At c σ H Γ) {i : Nat} {v : V} {g : G} (h : GR c H v g) (hg : ∀ ds, g ≠ .own ds) (hi : i < Γ.length) : At c (σ.set i (some v)) H (Γ.set i (some g)) := by
  have hσ : i < σ.length := by rw [a.len]; exact hi
  refine ⟨a.ok, by rw [List.length_set, List.length_set]; exact a.len, fun j g' e => ?_, fun j k u ds es e1 e2 e3 e4 => ?_, a.kp, a.J⟩
  · by_cases hj : i = j
    · subst hj
      rw [List.getElem?_set_self hi] at e
      cases e
      exact ⟨v, by rw [List.getElem?_set_self hσ], h⟩
    · rw [List.getElem?_set_ne hj] at e
      obtain ⟨u, h1, h2⟩ := a.slot j g' e
      exact ⟨u, by rw [List.getElem?_set_ne hj]; exact h1, h2⟩
  · have nj : i ≠ j := fun z => by
      subst z
      rw [List.getElem?_set_self hi] at e1
      cases e1
      exact hg ds rfl
    have nk : i ≠ k := fun z => by
      subst z
      rw [List.getElem?_set_self hi] at e2
      cases e2
      exact hg es rfl
    rw [List.getElem?_set_ne nj] at e1 e3
    rw [List.getElem?_set_ne nk] at e2 e4
    exact a.sep j k u ds es e1 e2 e3 e4
/-- a slot takes a new list: fresh at an earlier heap of the same environment -/
theorem At.setO (a : At c σ H Γ) {H0 : Hp} (a0 : At c σ H0 Γ) {i : Nat} {x : Addr} {ds : List PyData} (h : GR c H (.ref x) (.own ds)) (hx : H0 x = none) (hi : i < Γ.length) : At c (σ.set i (some (.ref x))) H (Γ.set i (some (.own ds))) := by
  have hσ : i < σ.length := by rw [a.len]; exact hi
  have other : ∀ (j : Nat) (es : List PyData) (u : V), Γ[j]? = some (some (.own es)) → σ[j]? = some (some u) → u ≠ .ref x := fun j es u e1 e2 z => by
    obtain ⟨v, h1, y, vs, h2, _, _, h3, _⟩ := a0.slot j _ e1
    rw [e2] at h1
    cases h1
    rw [z] at h2
    cases h2
    rw [hx] at h3
    cases h3
  refine ⟨a.ok, by rw [List.length_set, List.length_set]; exact a.len, fun j g' e => ?_, fun j k u es fs e1 e2 e3 e4 => ?_, a.kp, a.J⟩
  · by_cases hj : i = j
    · subst hj
      rw [List.getElem?_set_self hi] at e
      cases e
      exact ⟨_, by rw [List.getElem?_set_self hσ], h⟩
    · rw [List.getElem?_set_ne hj] at e
      obtain ⟨u, h1, h2⟩ := a.slot j g' e
      exact ⟨u, by rw [List.getElem?_set_ne hj]; exact h1, h2⟩
  · by_cases hj : i = j
    · by_cases hk : i = k
      · exact hj.symm.trans hk
      · subst hj
        rw [List.getElem?_set_self hσ] at e3
        cases e3
        rw [List.getElem?_set_ne hk] at e2 e4
        exact absurd rfl (other k fs _ e2 e4)
    · by_cases hk : i = k
      · subst hk
        rw [List.getElem?_set_self hσ] at e4
        cases e4
        rw [List.getElem?_set_ne hj] at e1 e3
        exact absurd rfl (other j es _ e1 e3)
      · rw [List.getElem?_set_ne hj] at e1 e3
        rw [List.getElem?_set_ne hk] at e2 e4
        exact a.sep j k u es fs e1 e2 e3 e4
/-- an own list is changed -/
theorem At.write (a : At c σ H Γ) {i : Nat} {x : Addr} {ds es : List PyData} {vs : List V} (hΓ : Γ[i]? = some (some (.own ds))) (hσ : σ[i]? = some (some (.ref x))) (hd : DpAll c.K H vs es) (hi : immAll es = true) :
    At c σ (upd H x (.lst vs)) (Γ.set i (some (.own es))) := by
  obtain ⟨v, h1, y, ws, h2, h3, h4, h5, h6, h7⟩ := a.slot i _ hΓ
  rw [hσ] at h1
  cases h1
  cases h2
  have t : TEx H (upd H x (.lst vs)) := tex_lst h5
  have il : i < Γ.length := (List.getElem?_eq_some_iff.mp hΓ).1
  have ne : ∀ b, c.H0 b ≠ none → b ≠ x := fun b hb z => by rw [z] at hb; exact hb h3
  have ne2 : ∀ b o, (c.H0 b ≠ none ∨ ∀ xs, o ≠ .lst xs) → H b = some o → b ≠ x := fun b o hb e z => hb.elim (fun q => ne b q z) fun q => q ws (by rw [z, h5] at e; exact (Option.some.inj e).symm)
  refine ⟨a.ok, by rw [List.length_set]; exact a.len, fun j g e => ?_, fun j k u es' fs e1 e2 e3 e4 => ?_, ⟨fun b o n e => ?_, fun b xs r => t b xs (a.kp.tup b xs r)⟩, a.ok.jst H _ a.J fun b o hb e => by rw [upd_ne (ne2 b o hb e)]; exact e⟩
  · by_cases hj : i = j
    · subst hj
      rw [List.getElem?_set_self il] at e
      cases e
      exact ⟨_, hσ, x, vs, rfl, h3, h4, upd_same, dpAll_mono t _ _ hi hd, hi⟩
    · rw [List.getElem?_set_ne hj] at e
      obtain ⟨u, g1, g2⟩ := a.slot j g e
      refine ⟨u, g1, ?_⟩
      cases g with
      | dat d => exact ⟨dp_mono t d u g2.2 g2.1, g2.2⟩
      | vw fs =>
        obtain ⟨y, us, rfl, k1, k2, k3, k4⟩ := g2
        exact ⟨y, us, rfl, k1, k2, dpAll_mono t _ _ k4 k3, k4⟩
      | own fs =>
        obtain ⟨y, us, rfl, k1, k2, k3, k4, k5⟩ := g2
        refine ⟨y, us, rfl, k1, k2, ?_, dpAll_mono t _ _ k5 k4, k5⟩
        rw [upd_ne fun z => hj (a.sep i j (.ref x) ds fs hΓ e hσ (by rw [← z]; exact g1))]
        exact k3
      | obj p => exact g2
  · have q1 : ∃ ds', Γ[j]? = some (some (.own ds')) := by
      by_cases hj : i = j
      · subst hj; exact ⟨ds, hΓ⟩
      · rw [List.getElem?_set_ne hj] at e1; exact ⟨_, e1⟩
    have q2 : ∃ ds', Γ[k]? = some (some (.own ds')) := by
      by_cases hk : i = k
      · subst hk; exact ⟨ds, hΓ⟩
      · rw [List.getElem?_set_ne hk] at e2; exact ⟨_, e2⟩
    obtain ⟨_, q1⟩ := q1
    obtain ⟨_, q2⟩ := q2
    exact a.sep j k u _ _ q1 q2 e3 e4
  · have e2 := a.kp.keep b o n e
    rw [upd_ne (ne b (by rw [e]; simp))]
    exact e2
/-- a list that no slot holds is changed -/
theorem At.other (a : At c σ H Γ) {x : Addr} {vs ws : List V} (h0 : c.H0 x = none) (hx : H x = some (.lst ws)) (no : ∀ (j : Nat) ds, Γ[j]? = some (some (.own ds)) → σ[j]? ≠ some (some (.ref x))) : At c σ (upd H x (.lst vs)) Γ := by
  have t : TEx H (upd H x (.lst vs)) := tex_lst hx
  have ne : ∀ b, c.H0 b ≠ none → b ≠ x := fun b hb z => by rw [z] at hb; exact hb h0
  have ne2 : ∀ b o, (c.H0 b ≠ none ∨ ∀ xs, o ≠ .lst xs) → H b = some o → b ≠ x := fun b o hb e z => hb.elim (fun q => ne b q z) fun q => q ws (by rw [z, hx] at e; exact (Option.some.inj e).symm)
  refine ⟨a.ok, a.len, fun j g e => ?_, a.sep, ⟨fun b o n e => ?_, fun b xs r => t b xs (a.kp.tup b xs r)⟩, a.ok.jst H _ a.J fun b o hb e => by rw [upd_ne (ne2 b o hb e)]; exact e⟩
  · obtain ⟨u, g1, g2⟩ := a.slot j g e
    refine ⟨u, g1, ?_⟩
    cases g with
    | dat d => exact ⟨dp_mono t d u g2.2 g2.1, g2.2⟩
    | vw fs =>
      obtain ⟨y, us, rfl, k1, k2, k3, k4⟩ := g2
      exact ⟨y, us, rfl, k1, k2, dpAll_mono t _ _ k4 k3, k4⟩
    | own fs =>
      obtain ⟨y, us, rfl, k1, k2, k3, k4, k5⟩ := g2
      refine ⟨y, us, rfl, k1, k2, ?_, dpAll_mono t _ _ k5 k4, k5⟩
      rw [upd_ne fun z => no j fs e (by rw [← z]; exact g1)]
      exact k3
    | obj p => exact g2
  · have e2 := a.kp.keep b o n e
    rw [upd_ne (ne b (by rw [e]; simp))]
    exact e2
/-- fewer slots are known -/
theorem At.sub (a : At c σ H Γ) {σ' : L2.St} {Γ' : Gam} (hl : σ'.length = Γ'.length) (h : ∀ (i : Nat) g, Γ'[i]? = some (some g) → Γ[i]? = some (some g) ∧ σ'[i]? = σ[i]?) : At c σ' H Γ' := by
  refine ⟨a.ok, hl, fun i g e => ?_, fun i j v ds es e1 e2 e3 e4 => ?_, a.kp, a.J⟩
  · obtain ⟨h1, h2⟩ := h i g e
    obtain ⟨v, h3, h4⟩ := a.slot i g h1
    exact ⟨v, by rw [h2]; exact h3, h4⟩
  · obtain ⟨h1, h2⟩ := h i _ e1
    obtain ⟨k1, k2⟩ := h j _ e2
    rw [h2] at e3
    rw [k2] at e4
    exact a.sep i j v ds es h1 k1 e3 e4
theorem At.left {τ : L2.St} {Δ : Gam} (a : At c (σ ++ τ) H (Γ ++ Δ)) (hl : σ.length = Γ.length) : At c σ H Γ := by
  refine a.sub hl fun i g e => ?_
  have hi : i < Γ.length := (List.getElem?_eq_some_iff.mp e).1
  exact ⟨by rw [List.getElem?_append_left hi]; exact e, by rw [List.getElem?_append_left (by omega)]⟩
/-- one more, at the end -/
theorem At.pushD (a : At c σ H Γ) {v : V} {g : G} (h : GR c H v g) (hg : ∀ ds, g ≠ .own ds) : At c (σ ++ [some v]) H (Γ ++ [some g]) := by
  have a1 : At c (σ ++ [none]) H (Γ ++ [none]) := by
    refine ⟨a.ok, by simp [a.len], fun i g' e => ?_, fun i j v ds es e1 e2 e3 e4 => ?_, a.kp, a.J⟩
    · by_cases hi : i < Γ.length
      · rw [List.getElem?_append_left hi] at e
        obtain ⟨u, h1, h2⟩ := a.slot i g' e
        exact ⟨u, by rw [List.getElem?_append_left (by rw [a.len]; exact hi)]; exact h1, h2⟩
      · rw [List.getElem?_append_right (by omega)] at e
        cases q : i - Γ.length with
        | zero => rw [q] at e; simp at e
        | succ n => rw [q] at e; simp at e
    · have l1 : ∀ (i : Nat) g', (Γ ++ [none])[i]? = some (some g') → i < Γ.length := fun i g' e => by
        by_cases hi : i < Γ.length
        · exact hi
        · rw [List.getElem?_append_right (by omega)] at e
          cases q : i - Γ.length with
          | zero => rw [q] at e; simp at e
          | succ n => rw [q] at e; simp at e
      have hi := l1 i _ e1
      have hj := l1 j _ e2
      rw [List.getElem?_append_left hi] at e1
      rw [List.getElem?_append_left hj] at e2
      rw [List.getElem?_append_left (by rw [a.len]; exact hi)] at e3
      rw [List.getElem?_append_left (by rw [a.len]; exact hj)] at e4
      exact a.sep i j v ds es e1 e2 e3 e4
  have := a1.setD (i := Γ.length) h hg (by simp)
  have e1 : (σ ++ [none]).set Γ.length (some v) = σ ++ [some v] := by rw [← a.len]; simp
  have e2 : (Γ ++ [none]).set Γ.length (some g) = Γ ++ [some g] := by simp
  rw [e1, e2] at this
  exact this
theorem At.none1 (a : At c σ H Γ) : At c (σ ++ [none]) H (Γ ++ [none]) := by
  have := a.pushD (v := .non) (g := .obj fun _ => True) True.intro (fun ds z => by cases z)
  refine this.sub (by simp [a.len]) fun i g e => ?_
  by_cases hi : i < Γ.length
  · rw [List.getElem?_append_left hi] at e
    exact ⟨by rw [List.getElem?_append_left hi]; exact e, by rw [List.getElem?_append_left (by rw [a.len]; exact hi), List.getElem?_append_left (by rw [a.len]; exact hi)]⟩
  · rw [List.getElem?_append_right (by omega)] at e
    cases q : i - Γ.length with
    | zero => rw [q] at e; simp at e
    | succ n => rw [q] at e; simp at e
theorem At.pushO (a : At c σ H Γ) {H0 : Hp} (a0 : At c σ H0 Γ) {x : Addr} {ds : List PyData} (h : GR c H (.ref x) (.own ds)) (hx : H0 x = none) : At c (σ ++ [some (.ref x)]) H (Γ ++ [some (.own ds)]) := by
  have := a.none1.setO a0.none1 (i := Γ.length) h hx (by simp)
  have e1 : (σ ++ [none]).set Γ.length (some (.ref x)) = σ ++ [some (.ref x)] := by rw [← a.len]; simp
  have e2 : (Γ ++ [none]).set Γ.length (some (.own ds)) = Γ ++ [some (.own ds)] := by simp
  rw [e1, e2] at this
  exact this
end

theorem wipe_in (σ : L2.St) {i : Nat} : ∀ {vs : List Nat}, i ∈ vs → (wipe σ vs)[i]? = if i < σ.length then some none else none
  | v :: vs, h => by
    unfold wipe
    by_cases e : v = i
    · subst e
      by_cases hl : v < σ.length
      · rw [if_pos hl, List.getElem?_set_self (by rw [wipe_length]; exact hl)]
      · rw [if_neg hl]
        exact List.getElem?_eq_none (by rw [List.length_set, wipe_length]; omega)
    · rw [List.getElem?_set_ne e]
      rcases List.mem_cons.mp h with z | z
      · exact absurd z.symm e
      · exact wipe_in σ z
theorem wipe_set {σ : L2.St} {j : Nat} {o : Option V} {vs : List Nat} (h : j ∈ vs) : wipe (σ.set j o) vs = wipe σ vs := by
  apply List.ext_getElem?
  intro i
  by_cases hi : i ∈ vs
  · rw [wipe_in _ hi, wipe_in _ hi, List.length_set]
  · rw [wipe_out hi, wipe_out hi, List.getElem?_set_ne]
    intro z
    subst z
    exact hi h

/-! ### targets -/
/-- a name, or a tuple of names -/
inductive Tgt where
  | nm (j : Nat)
  | tp (js : List Nat)
def Tgt.slots : Tgt → List Nat
  | .nm j => [j]
  | .tp js => js
def setsG : List Nat → List PyData → Gam → Option Gam
  | [], [], Γ => some Γ
  | j :: js, d :: ds, Γ => if j < Γ.length then setsG js ds (Γ.set j (some (.dat d))) else none
  | _, _, _ => none
def Tgt.go : Tgt → PyData → Gam → Option Gam
  | .nm j, d, Γ => setsG [j] [d] Γ
  | .tp js, .tuple ds, Γ => setsG js ds Γ
  | _, _, _ => none
def gNames : List Nat → TGs
  | [] => gNil
  | j :: js => gCons (gName j) (gNames js)
def Tgt.tg (K : PySem.W.Frag) : Tgt → TG
  | .nm j => gName j
  | .tp js => gTup K js.length (gNames js)
structure PGa (X : Cx) (c : Ctx) (e : Expr) (t : Tgt) : Prop where
  pg : PG X e (t.tg c.K)
section
variable {X : Cx} {c : Ctx} {pos : Pos}
theorem ag_name (j : Nat) {x : Str} (hN : X.N.Nodup) (hi : X.N[j]? = some x := by rfl) (hx : Loc X.env.scope x := by first | exact .inl rfl | exact .inr rfl) (hf : X.fn x = true ∨ X.env.scope.names.lookup x = some .local := by first | exact .inl rfl | exact .inr rfl | assumption) : PGa X c (.Name x pos) (.nm j) := ⟨pg_name hN hi hx hf⟩
structure PGsa (X : Cx) (es : List Expr) (js : List Nat) : Prop where
  pgs : PGs X es (gNames js)
theorem ags_nil : PGsa X [] [] := ⟨pgs_nil⟩
theorem ags_cons (j : Nat) {js : List Nat} {x : Str} {es : List Expr} (hN : X.N.Nodup) (h : PGsa X es js) (hi : X.N[j]? = some x := by rfl) (hx : Loc X.env.scope x := by first | exact .inl rfl | exact .inr rfl) (hf : X.fn x = true ∨ X.env.scope.names.lookup x = some .local := by first | exact .inl rfl | exact .inr rfl | assumption)
    (hs : (assignEach (.Name x pos :: es) X.env).map (·.2) = assign (.Name x pos) X.env :: (assignEach es X.env).map (·.2) := by rfl) : PGsa X (.Name x pos :: es) (j :: js) := ⟨pgs_cons (pg_name hN hi hx hf) h.pgs hs⟩
theorem ag_tup {es : List Expr} {js : List Nat} {k : Nat} (hc : X.calm = true) (h : PGsa X es js) (hn : (assignEach es X.env).length = js.length := by rfl) (hst : (assignEach es X.env).findIdx? (·.1) = none := by rfl) (hK : X.K = c.K := by rfl) : PGa X c (.Tuple es k pos) (.tp js) := ⟨by
  show PG X _ (gTup c.K js.length (gNames js))
  rw [← hK]
  exact pg_tup hc h.pgs hn hst⟩
theorem sets_run {H : Hp} {Q : L2.St → Hp → Prop} {τ : L2.St} {Δ : Gam} : ∀ (js : List Nat) (vs : List V) (ds : List PyData) (σ : L2.St) (Γ Γ' : Gam), DpAll c.K H vs ds → immAll ds = true → σ.length = Γ.length → At c (σ ++ τ) H (Γ ++ Δ) → setsG js ds Γ = some Γ' →
    (∀ σ', σ'.length = Γ'.length → At c (σ' ++ τ) H (Γ' ++ Δ) → (∀ vs, (∀ j ∈ js, j ∈ vs) → wipe σ' vs = wipe σ vs) → Q σ' H) → gNames js vs σ H Q
  | [], vs, ds, σ, Γ, Γ', h, hi, hl, at_, e, k => by
    cases ds with
    | nil =>
      cases h
      cases e
      exact ⟨rfl, k σ hl at_ fun _ _ => rfl⟩
    | cons d ds => cases e
  | j :: js, vs, ds, σ, Γ, Γ', h, hi, hl, at_, e, k => by
    cases ds with
    | nil => cases e
    | cons d ds =>
      cases h with
      | cons h1 h2 =>
        simp only [immAll, Bool.and_eq_true] at hi
        unfold setsG at e
        split at e
        · rename_i hj
          refine ⟨_, _, rfl, ?_⟩
          rename_i v vs
          have a2 : At c (σ.set j (some v) ++ τ) H (Γ.set j (some (.dat d)) ++ Δ) := by
            have := at_.setD (i := j) (v := v) (g := .dat d) ⟨h1, hi.1⟩ (fun ds z => by cases z) (by rw [List.length_append]; omega)
            rw [List.set_append_left _ _ (by omega), List.set_append_left _ _ hj] at this
            exact this
          refine sets_run js vs ds _ _ Γ' h2 hi.2 (by simp [hl]) a2 e fun σ' l' at' w' => k σ' l' at' fun us hu => ?_
          rw [w' us fun i hi => hu i (by simp [hi])]
          exact wipe_set (hu j (by simp))
        · cases e
theorem tgt_run {t : Tgt} {H : Hp} {Q : L2.St → Hp → Prop} {τ : L2.St} {Δ : Gam} {v : V} {d : PyData} {σ : L2.St} {Γ Γ' : Gam} (h : Dp c.K H v d) (hi : imm d = true) (hl : σ.length = Γ.length) (at_ : At c (σ ++ τ) H (Γ ++ Δ)) (e : t.go d Γ = some Γ')
    (k : ∀ σ', σ'.length = Γ'.length → At c (σ' ++ τ) H (Γ' ++ Δ) → (∀ vs, (∀ j ∈ t.slots, j ∈ vs) → wipe σ' vs = wipe σ vs) → Q σ' H) : t.tg c.K v σ H Q := by
  cases t with
  | nm j =>
    have := sets_run [j] [v] [d] σ Γ Γ' (.cons h .nil) (by simp [immAll, hi]) hl at_ e k
    obtain ⟨w, r, e1, q⟩ := this
    cases e1
    obtain ⟨_, q⟩ := q
    exact q
  | tp js =>
    cases d with
    | tuple ds =>
      cases h with
      | tup h1 h2 =>
        refine ⟨_, _, rfl, h1, ?_, sets_run js _ ds σ Γ Γ' h2 (by simpa [imm] using hi) hl at_ e k⟩
        rw [dpAll_length h2]
        have : ∀ (js : List Nat) (ds : List PyData) (Γ : Gam), setsG js ds Γ = some Γ' → ds.length = js.length := by
          intro js
          induction js with
          | nil =>
            intro ds Γ e
            cases ds with
            | nil => rfl
            | cons d ds => cases e
          | cons j js ih =>
            intro ds Γ e
            cases ds with
            | nil => cases e
            | cons d ds =>
              unfold setsG at e
              split at e
              · rw [List.length_cons, List.length_cons, ih ds _ e]
              · cases e
        exact this js ds Γ e
    | none => cases e
    | bool _ => cases e
    | int _ => cases e
    | str _ => cases e
    | list _ => cases e
    | dict _ => cases e
end
end Ab

namespace Ab
open PySem PySem.Spec PyProof.Rows L2

/-! ### what is walked -/
structure Yl (c : Ctx) (J : It) (Z : Hp → Prop) (items : List PyData) : Prop where
  go : ∀ i H, Z H → i < items.length → J.go i H
  stop : ∀ i H, Z H → items.length ≤ i → J.stop i H
  yld : ∀ i H x H', Z H → i < items.length → J.yld i H x H' → Fx [] H H' ∧ Z H' ∧ ∃ d, items[i]? = some d ∧ Dp c.K H' x d ∧ imm d = true
/-- what is walked stands in slots of its own, beyond the def's -/
def Ghost (c : Ctx) (σ : L2.St) (H H' : Hp) (Γ : Gam) (Z : Hp → Prop) : Prop := ∃ (τ : L2.St) (Δ : Gam),
  (∀ τ0 Δ0, At c (σ ++ τ0) H (Γ ++ Δ0) → At c (σ ++ τ0) H' (Γ ++ Δ0) → At c (σ ++ (τ0 ++ τ)) H' (Γ ++ (Δ0 ++ Δ))) ∧
  ∀ σ1 Γ1 H1, At c (σ1 ++ τ) H1 (Γ1 ++ Δ) → σ1.length = Γ1.length → Z H1
/-- Z stands while what stood at H' stands -/
def Stb (c : Ctx) (H' : Hp) (Z : Hp → Prop) : Prop := ∀ H2 H3, Z H2 → TEx H2 H3 → (∀ a o, a ∉ c.S → H' a ≠ none → H2 a = some o → H3 a = some o) → Z H3
abbrev XI := Gam → (List PyData → Bool → Prop) → Prop
def gI (c : Ctx) (A : XI) : TI := fun σ H R => ∃ Γ P, At c σ H Γ ∧ A Γ P ∧ ∀ J H' items gh Z, Fx c.S H H' → At c σ H' Γ → Z H' → Stb c H' Z → (gh = true → Ghost c σ H H' Γ Z) → Yl c J Z items → P items gh → R J H'
structure PIa (X : Cx) (c : Ctx) (tg e : Expr) (A : XI) : Prop where
  pi : PI X tg e (gI c A)
section
variable {X : Cx} {c : Ctx} {e a b tg : Expr} {es : List Expr} {A B : XE} {L : XA} {pos p : Pos}
theorem pi_imp {tg e : Expr} {t u : TI} (h : PI X tg e t) (w : ∀ σ H Q, u σ H Q → t σ H Q) : PI X tg e u := ⟨fun pins s σ H Q I hu => h.run pins s σ H Q I (w _ _ _ hu)⟩
theorem pi_or {tg e : Expr} {t u : TI} (h : PI X tg e t) (h' : PI X tg e u) : PI X tg e (fun σ H R => t σ H R ∨ u σ H R) := ⟨fun pins s σ H Q I hu => by
  rcases hu with hu | hu
  · exact h.run pins s σ H Q I hu
  · exact h'.run pins s σ H Q I hu⟩
def RV.gh : RV → Bool
  | .al _ => false
  | _ => true
/-- over a list, a tuple -/
def aISeq (A : XE) : XI := fun Γ P => A Γ fun r => ∃ ds, seqOf r = some ds ∧ P ds r.gh
/-- a list at a: as it stood when the walk began, tracked or written -/
def ZL (c : Ctx) (H' : Hp) (a : Addr) (ds : List PyData) (H : Hp) : Prop := (∃ vs, SqL c.K H a vs ∧ DpAll c.K H vs ds) ∧ (H' a = none → ∃ vs, (∀ H, SqL c.K H a vs) ∧ DpAll c.K H vs ds)
theorem yl_list {a : Addr} {H' : Hp} {ds : List PyData} (hi : immAll ds = true) : Yl c (Itl c.K a) (ZL c H' a ds) ds where
  go := fun i H ⟨⟨vs, h1, h2⟩, _⟩ hi => by
    have : i < vs.length := by rw [dpAll_length h2]; exact hi
    exact ⟨vs, vs[i], h1, List.getElem?_eq_getElem this⟩
  stop := fun i H ⟨⟨vs, h1, h2⟩, _⟩ hi => ⟨vs, h1, by rw [dpAll_length h2]; exact hi⟩
  yld := fun i H x H' ⟨⟨vs, h1, h2⟩, h3⟩ _ ⟨e, q⟩ => by
    subst e
    refine ⟨Fx.refl H', ⟨⟨vs, h1, h2⟩, h3⟩, ?_⟩
    obtain ⟨d, g1, g2⟩ := dpAll_getV h2 (q vs h1)
    exact ⟨d, g1, g2, immAll_get hi g1⟩
theorem stb_list {a : Addr} {H' : Hp} {ds : List PyData} (n : a ∉ c.S) (hi : immAll ds = true) : Stb c H' (ZL c H' a ds) := fun H2 H3 ⟨⟨vs, h1, h2⟩, h3⟩ t k => by
  refine ⟨?_, fun e => ?_⟩
  · by_cases e : H' a = none
    · obtain ⟨ws, g1, g2⟩ := h3 e
      exact ⟨ws, g1 H3, dpAll_mono t _ _ hi g2⟩
    · rcases h1 with (h1 | ⟨o, h1⟩) | h1
      · exact ⟨vs, .inl (.inl (k a _ n e h1)), dpAll_mono t _ _ hi h2⟩
      · exact ⟨vs, .inl (.inr ⟨o, k a _ n e h1⟩), dpAll_mono t _ _ hi h2⟩
      · exact ⟨vs, .inr h1, dpAll_mono t _ _ hi h2⟩
  · obtain ⟨ws, g1, g2⟩ := h3 e
    exact ⟨ws, g1, dpAll_mono t _ _ hi g2⟩
theorem zl_at {a : Addr} {H' H : Hp} {vs : List V} {ds : List PyData} (h1 : SqL c.K H' a vs) (h : SqL c.K H a vs) (h2 : DpAll c.K H vs ds) : ZL c H' a ds H := by
  refine ⟨⟨vs, h, h2⟩, fun e => ?_⟩
  rcases h1 with (h1 | ⟨o, h1⟩) | h1
  · rw [e] at h1; cases h1
  · rw [e] at h1; cases h1
  · exact ⟨vs, fun _ => .inr h1, h2⟩
theorem yl_tup {a : Addr} {ds : List PyData} (hi : immAll ds = true) : Yl c (Itt c.K a) (fun H => ∃ vs, SqT c.K H a vs ∧ DpAll c.K H vs ds) ds where
  go := fun i H ⟨vs, h1, h2⟩ hi => by
    have : i < vs.length := by rw [dpAll_length h2]; exact hi
    exact ⟨vs, vs[i], h1, List.getElem?_eq_getElem this⟩
  stop := fun i H ⟨vs, h1, h2⟩ hi => ⟨vs, h1, by rw [dpAll_length h2]; exact hi⟩
  yld := fun i H x H' ⟨vs, h1, h2⟩ _ ⟨e, q⟩ => by
    subst e
    refine ⟨Fx.refl H', ⟨vs, h1, h2⟩, ?_⟩
    obtain ⟨d, g1, g2⟩ := dpAll_getV h2 (q vs h1)
    exact ⟨d, g1, g2, immAll_get hi g1⟩
theorem slot_last {σ1 : L2.St} {Γ1 : Gam} {H1 : Hp} {o : Option V} {g : G} (a : At c (σ1 ++ [o]) H1 (Γ1 ++ [some g])) (hl : σ1.length = Γ1.length) : ∃ v, o = some v ∧ GR c H1 v g := by
  obtain ⟨v, h1, h2⟩ := a.slot Γ1.length g (by rw [List.getElem?_append_right (Nat.le_refl _)]; simp)
  rw [List.getElem?_append_right (by omega)] at h1
  rw [show Γ1.length - σ1.length = 0 by omega] at h1
  simp at h1
  exact ⟨v, h1, h2⟩
def iSeq (K : PySem.W.Frag) (tl : TE) : TI := fun σ H R => tl σ H fun x H1 => ∃ a, x = .ref a ∧ (((∃ xs, SqL K H1 a xs) ∧ R (Itl K a) H1) ∨ ((∃ xs, SqT K H1 a xs) ∧ R (Itt K a) H1))
theorem pi_seq {l : Expr} {tl : TE} (hl : PE X l tl) : PI X tg l (iSeq X.K tl) := by
  refine ⟨fun pins s σ H R I h => ?_⟩
  refine thn (hl.run pins s σ H _ I h) fun v s1 ⟨x, H1, I1, r1, q1⟩ => ?_
  obtain ⟨a, e, ⟨⟨xs, hq⟩, q⟩ | ⟨⟨xs, hq⟩, q⟩⟩ := q1
  · subst e
    cases r1
    obtain ⟨its, rv, p, hz⟩ := I1.list hq
    refine wpAny_pyIter_list p.isList ?_
    refine ⟨s1.heap.objs.size, [s1.heap.objs.size], _, _, H1, rfl, I1.kept (t' := s1.toks) fun b o e => Heap.get?_push_of_some _ e, turn_list a _, ⟨_, Heap.get?_push_size _ rfl, rfl, rfl⟩, fun b hb => ?_, q⟩
    have e : b = s1.heap.objs.size := by simpa using hb
    subst e
    exact I1.fpOk (Nat.le_refl _) (I1.hok.fresh (Nat.le_refl _))
  · subst e
    cases r1
    obtain ⟨its, rv, p, hz⟩ := I1.tuple hq
    refine wpAny_pyIter_tuple (show s1.heap.IsTuple a its.toArray from p) ?_
    refine ⟨s1.heap.objs.size, [s1.heap.objs.size], _, _, H1, rfl, I1.kept (t' := s1.toks) fun b o e => Heap.get?_push_of_some _ e, turn_tuple a _, ⟨_, Heap.get?_push_size _ rfl, rfl, rfl⟩, fun b hb => ?_, q⟩
    have e : b = s1.heap.objs.size := by simpa using hb
    subst e
    exact I1.fpOk (Nat.le_refl _) (I1.hok.fresh (Nat.le_refl _))
theorem app_assoc3 (a b d : L2.St) : a ++ (b ++ d) = (a ++ b) ++ d := (List.append_assoc a b d).symm
theorem ghost_dat {H H' : Hp} {σ : L2.St} {Γ : Gam} {v : V} {g : G} {Z : Hp → Prop} (h : GR c H' v g) (hg : ∀ ds, g ≠ .own ds) (hz : ∀ σ1 Γ1 H1, At c (σ1 ++ [some v]) H1 (Γ1 ++ [some g]) → σ1.length = Γ1.length → Z H1) : Ghost c σ H H' Γ Z :=
  ⟨[some v], [some g], fun τ0 Δ0 _ a => by
    rw [← List.append_assoc, ← List.append_assoc]
    exact a.pushD h hg, hz⟩
theorem ghost_own {H H' : Hp} {σ : L2.St} {Γ : Gam} {x : Addr} {ds : List PyData} {Z : Hp → Prop} (h : GR c H' (.ref x) (.own ds)) (hx : H x = none) (hz : ∀ σ1 Γ1 H1, At c (σ1 ++ [some (.ref x)]) H1 (Γ1 ++ [some (.own ds)]) → σ1.length = Γ1.length → Z H1) : Ghost c σ H H' Γ Z :=
  ⟨[some (.ref x)], [some (.own ds)], fun τ0 Δ0 a0 a => by
    rw [← List.append_assoc, ← List.append_assoc]
    exact a.pushO a0 h hx, hz⟩
theorem ai_seq (ha : PEa X c e A) (hK : X.K = c.K := by rfl) : PIa X c tg e (aISeq A) := ⟨pi_imp (pi_seq ha.pe) fun σ H R ⟨Γ, P, at_, p, k⟩ => by
  rw [hK]
  refine ⟨Γ, _, at_, p, fun v H1 r f1 at1 r1 ⟨ds, es, q⟩ => ?_⟩
  cases r with
  | dat d =>
    cases d with
    | tuple xs =>
      cases es
      obtain ⟨a, vs, rfl, t1, d1, i1⟩ := r1.ro.tup
      refine ⟨a, rfl, .inr ⟨⟨vs, t1⟩, k _ H1 ds true _ f1 at1 ⟨vs, t1, d1⟩ (fun H2 H3 ⟨ws, h1, h2⟩ f _ => ⟨ws, sqT_keep f h1, dpAll_mono f _ _ i1 h2⟩) (fun _ => ghost_dat (v := .ref a) (g := .dat (.tuple ds)) r1 (fun ds z => by cases z) fun σ1 Γ1 H2 a2 hl => ?_) (yl_tup i1) q⟩⟩
      obtain ⟨w, e1, e2⟩ := slot_last a2 hl
      cases e1
      obtain ⟨a', vs', e3, t2, d2, _⟩ := RO.tup (c := c) (H := H2) ⟨H2, e2⟩
      cases e3
      exact ⟨vs', t2, d2⟩
    | none => cases es
    | bool _ => cases es
    | int _ => cases es
    | str _ => cases es
    | list _ => cases es
    | dict _ => cases es
  | new xs =>
    cases es
    obtain ⟨a, vs, rfl, h1, h2, h3, d1, i1⟩ := r1
    refine ⟨a, rfl, .inl ⟨⟨vs, SqL.of h3⟩, k _ H1 ds true (ZL c H1 a ds) f1 at1 (zl_at (SqL.of h3) (SqL.of h3) d1) (stb_list h2 i1) (fun _ => ghost_own (x := a) (ds := ds) ⟨a, vs, rfl, (at_.fresh h1).2, h2, h3, d1, i1⟩ h1 fun σ1 Γ1 H2 a2 hl => ?_) (yl_list i1) q⟩⟩
    obtain ⟨w, e1, a', vs', e3, _, _, h4, h5, _⟩ := slot_last a2 hl
    cases e1
    cases e3
    exact ⟨⟨vs', SqL.of h4, h5⟩, fun z => by rw [h3] at z; cases z⟩
  | vw xs =>
    cases es
    obtain ⟨a, vs, rfl, h2, h0, h3, d1, i1⟩ := r1
    refine ⟨a, rfl, .inl ⟨⟨vs, h3⟩, k _ H1 ds true (ZL c H1 a ds) f1 at1 (zl_at h3 h3 d1) (stb_list h2 i1) (fun _ => ghost_dat (v := .ref a) (g := .vw ds) ⟨a, vs, rfl, h2, h0, d1, i1⟩ (fun ds z => by cases z) fun σ1 Γ1 H2 a2 hl => ?_) (yl_list i1) q⟩⟩
    obtain ⟨w, e1, a', vs', e3, h4, h5, h6, _⟩ := slot_last a2 hl
    cases e1
    cases e3
    exact zl_at (sqL_keep at1.kp h4 h5) (sqL_keep a2.kp h4 h5) h6
  | al xs =>
    cases es
    obtain ⟨a, vs, rfl, h2, h3, d1, i1⟩ := r1
    exact ⟨a, rfl, .inl ⟨⟨vs, h3⟩, k _ H1 ds false (ZL c H1 a ds) f1 at1 (zl_at h3 h3 d1) (stb_list h2 i1) (fun z => by cases z) (yl_list i1) q⟩⟩
  | obj p => cases es⟩
/-- over a range -/
theorem yl_rng (i j : Int) : Yl c (Itr i (j - i).toNat) (fun _ => True) (rangeD i j) where
  go := fun k H _ hk => by
    unfold rangeD at hk
    rw [List.length_map, List.length_range] at hk
    exact hk
  stop := fun k H _ hk => by
    unfold rangeD at hk
    rw [List.length_map, List.length_range] at hk
    exact hk
  yld := fun k H x H' _ hk ⟨e1, e2⟩ => by
    subst e1 e2
    refine ⟨Fx.refl H', True.intro, .int (i + (k : Nat)), ?_, .int _, rfl⟩
    unfold rangeD at hk ⊢
    rw [List.length_map, List.length_range] at hk
    rw [List.getElem?_map, List.getElem?_range hk]
    rfl
theorem ghost_nil {H H' : Hp} {σ : L2.St} {Γ : Gam} : Ghost c σ H H' Γ (fun _ => True) := ⟨[], [], fun τ0 Δ0 _ a => by simpa using a, fun _ _ _ _ _ => True.intro⟩
def aIR1 (A : XE) : XI := fun Γ P => A Γ fun x => ∃ j, x = .dat (.int j) ∧ -(2 ^ 62) ≤ j ∧ j < 2 ^ 62 ∧ P (rangeD 0 j) true
def aIR2 (A B : XE) : XI := fun Γ P => A Γ fun x => B Γ fun y => ∃ i j, x = .dat (.int i) ∧ y = .dat (.int j) ∧ -(2 ^ 62) ≤ i ∧ i < 2 ^ 62 ∧ -(2 ^ 62) ≤ j ∧ j < 2 ^ 62 ∧ P (rangeD i j) true
theorem ai_r1 (hg : Gl X "range") (hm : X.mg "range" = none) (ha : PEa X c a A) (hs : starEach [a] X.env = [(false, eval a X.env)] := by rfl) (h0 : starEach ([] : List Expr) X.env = [] := by rfl) : PIa X c tg (.Call (.Name "range" p) [a] [] pos) (aIR1 A) :=
  ⟨pi_imp (pi_range1 hg hm (pa_cons ha.pe pa_nil (by rw [hs, h0])) hs) fun σ H R ⟨Γ, P, at_, p, k⟩ => by
    refine ⟨Γ, _, at_, p, fun v H1 r f1 at1 r1 ⟨j, e, h1, h2, q⟩ => ?_⟩
    subst e
    cases r1.ro.int
    refine ⟨j, rfl, h1, h2, ?_⟩
    have := k (Itr 0 (j - 0).toNat) H1 (rangeD 0 j) true (fun _ => True) f1 at1 True.intro (fun _ _ _ _ _ => True.intro) (fun _ => ghost_nil) (yl_rng 0 j) q
    rw [Int.sub_zero] at this
    exact this⟩
theorem ai_r2 (hg : Gl X "range") (hm : X.mg "range" = none) (ha : PEa X c a A) (hb : PEa X c b B) (hs : starEach [a, b] X.env = [(false, eval a X.env), (false, eval b X.env)] := by rfl) (hs2 : starEach [b] X.env = [(false, eval b X.env)] := by rfl) (h0 : starEach ([] : List Expr) X.env = [] := by rfl) :
    PIa X c tg (.Call (.Name "range" p) [a, b] [] pos) (aIR2 A B) :=
  ⟨pi_imp (pi_range2 hg hm (pa_cons ha.pe (pa_cons hb.pe pa_nil (by rw [hs2, h0])) (by rw [hs, hs2])) hs hs2) fun σ H R ⟨Γ, P, at_, p, k⟩ => by
    refine ⟨Γ, _, at_, p, fun v H1 r f1 at1 r1 q1 => ⟨Γ, _, at1, q1, fun u H2 r' f2 at2 r2 ⟨i, j, e, e', h1, h2, h3, h4, q⟩ => ?_⟩⟩
    subst e e'
    cases r1.ro.int
    cases r2.ro.int
    exact ⟨i, j, rfl, ⟨h1, h2, h3, h4⟩, k _ H2 (rangeD i j) true (fun _ => True) (f1.trans f2) at2 True.intro (fun _ _ _ _ _ => True.intro) (fun _ => ghost_nil) (yl_rng i j) q⟩⟩

/-! ### list comprehensions -/
structure PTsa (X : Cx) (c : Ctx) (ifs : List Expr) (A : XT) : Prop where
  pts : PTs X ifs (gT c A)
theorem pts_imp {ifs : List Expr} {t u : TT} (h : PTs X ifs t) (w : ∀ σ H Q, u σ H Q → t σ H Q) : PTs X ifs u := ⟨fun pins s σ H Q I hu => h.run pins s σ H Q I (w _ _ _ hu)⟩
def aYes : XT := fun _ P => P true
theorem ats_nil : PTsa X c [] aYes := ⟨pts_imp pts_nil fun σ H Q ⟨Γ, P, at_, p, k⟩ => k true H (Fx.refl H) at_ p⟩
theorem ats_one {T : XT} (h : PTa X c a T) : PTsa X c [a] T := ⟨pts_one h.pt⟩
def wipeG (Γ : Gam) : List Nat → Gam
  | [] => Γ
  | v :: vs => (wipeG Γ vs).set v none
theorem wipeG_len (Γ : Gam) : ∀ vs : List Nat, (wipeG Γ vs).length = Γ.length
  | [] => rfl
  | v :: vs => by unfold wipeG; rw [List.length_set, wipeG_len Γ vs]
theorem wipeG_some {Γ : Gam} {i : Nat} {g : G} : ∀ {vs : List Nat}, (wipeG Γ vs)[i]? = some (some g) → Γ[i]? = some (some g) ∧ i ∉ vs
  | [], h => ⟨h, by simp⟩
  | v :: vs, h => by
    unfold wipeG at h
    by_cases hi : v = i
    · subst hi
      by_cases hl : v < (wipeG Γ vs).length
      · rw [List.getElem?_set_self hl] at h; cases h
      · rw [List.getElem?_eq_none (by rw [List.length_set]; omega)] at h; cases h
    · rw [List.getElem?_set_ne hi] at h
      obtain ⟨h1, h2⟩ := wipeG_some h
      exact ⟨h1, by simp [Ne.symm hi, h2]⟩
theorem At.wipe {σ : L2.St} {H : Hp} {Γ : Gam} (a : At c σ H Γ) (vs : List Nat) : At c (wipe σ vs) H (wipeG Γ vs) := a.sub (by rw [wipe_length, wipeG_len]; exact a.len) fun i g e => by
  obtain ⟨h1, h2⟩ := wipeG_some e
  exact ⟨h1, wipe_out h2⟩
def aLc (I : XI) (t : Tgt) (T : XT) (E : XE) (vs : List Nat) : XE := fun Γ P => I Γ fun items _ => ∃ Iv : Nat → List PyData → Prop, Iv 0 [] ∧
  (∀ (i : Nat) d, items[i]? = some d → ∀ acc, Iv i acc → ∃ Γ2, t.go d (wipeG Γ vs) = some Γ2 ∧ T Γ2 fun b => if b = true then E Γ2 fun r => ∃ y, r = .dat y ∧ acc.length < sizeLine ∧ Iv (i + 1) (acc ++ [y]) else Iv (i + 1) acc) ∧
  ∀ acc, Iv items.length acc → P (.new acc)
/-- no slot holds D -/
def NoSlot (σ : L2.St) (Γ : Gam) (D : Addr) : Prop := ∀ (j : Nat) ds, Γ[j]? = some (some (.own ds)) → σ[j]? ≠ some (some (.ref D))
theorem wipe_wipe (σ : L2.St) (vs : List Nat) : wipe (wipe σ vs) vs = wipe σ vs := by
  apply List.ext_getElem?
  intro i
  by_cases hi : i ∈ vs
  · rw [wipe_in _ hi, wipe_in _ hi, wipe_length]
  · rw [wipe_out hi]
/-- the state between two turns of a comprehension: D the new list, H1 the heap at its start -/
structure LcSt (c : Ctx) (σ : L2.St) (Γ : Gam) (Z : Hp → Prop) (H1 : Hp) (D : Addr) (ds : List PyData) (H : Hp) : Prop where
  lst : ∃ acc, H D = some (.lst acc) ∧ DpAll c.K H acc ds ∧ immAll ds = true
  at_ : At c σ H Γ
  z : Z H
  kp : ∀ a o, a ∉ c.S → a ≠ D → H1 a = some o → H a = some o
  tx : TEx H1 H
theorem LcSt.fx {σ : L2.St} {Γ : Gam} {Z : Hp → Prop} {H1 H H' : Hp} {D : Addr} {ds : List PyData} (h : LcSt c σ Γ Z H1 D ds H) (n : D ∉ c.S) (zs : Stb c H1 Z) (f : Fx c.S H H') (j : c.J H') : LcSt c σ Γ Z H1 D ds H' := by
  obtain ⟨⟨acc, h1, h2, h3⟩, h4, h5, h6, h7⟩ := h
  exact ⟨⟨acc, f.keep _ _ n h1, dpAll_mono f.tup _ _ h3 h2, h3⟩, h4.grow f j, zs _ _ h5 f.tup fun a o na _ e => f.keep a o na e, fun a o na nd e => f.keep a o na (h6 a o na nd e), fun a xs r => f.tup a xs (h7 a xs r)⟩
theorem lc_imp {I : XI} {t : Tgt} {T : XT} {E : XE} {vs : List Nat} (ht : ∀ j ∈ t.slots, j ∈ vs) (σ : L2.St) (H : Hp) (Q : VK) (h : gE c (aLc I t T E vs) σ H Q) :
    tLc (gI c I) (t.tg c.K) (gT c T) (gE c E) vs σ H Q := by
  obtain ⟨Γ, P, at_, p, k⟩ := h
  refine ⟨Γ, _, at_, p, fun J H1 items gh Z f1 at1 z1 zs _ yl ⟨Iv, i0, istep, iend⟩ D hD => ?_⟩
  have fr := at1.fresh hD
  have noD : NoSlot σ Γ D := fun j ds e1 e2 => by
    obtain ⟨v, g1, x, ws, g2, _, _, g3, _⟩ := at1.slot j _ e1
    rw [e2] at g1
    cases g1
    cases g2
    rw [hD] at g3
    cases g3
  have f0 : Fx c.S H1 (upd H1 D (.lst [])) := Fx.new hD
  refine ⟨fun i m H' => m = items.length - i ∧ i ≤ items.length ∧ ∃ ds, Iv i ds ∧ LcSt c σ Γ Z H1 D ds H', ⟨items.length, by omega, by omega, [], i0, ⟨[], upd_same, .nil, rfl⟩, at1.new hD, zs _ _ z1 f0.tup fun a o n _ e => f0.keep a o n e, fun a o _ n e => by rw [upd_ne n]; exact e, f0.tup⟩, ?_⟩
  rintro i m H2 ⟨rfl, hi, ds, iv, L2_⟩
  by_cases hlt : i < items.length
  · refine .inr ⟨yl.go i H2 L2_.z hlt, fun H' => ∃ ds, Iv (i + 1) ds ∧ LcSt c σ Γ Z H1 D ds H', fun H' hN => ⟨items.length - (i + 1), by omega, rfl, hlt, hN⟩, fun x H3 hy => ?_⟩
    obtain ⟨f3, z3, d, hd, dp3, id3⟩ := yl.yld i H2 x H3 L2_.z hlt hy
    have L3 : LcSt c σ Γ Z H1 D ds H3 := L2_.fx fr.1 zs f3.nil (L2_.at_.ext f3).J
    obtain ⟨Γ2, et, q⟩ := istep i d hd ds iv
    have atw : At c (wipe σ vs ++ []) H3 (wipeG Γ vs ++ []) := by
      rw [List.append_nil, List.append_nil]
      exact L3.at_.wipe vs
    refine tgt_run (τ := []) (Δ := []) dp3 id3 (by rw [wipe_length, wipeG_len]; exact at_.len) atw et fun σ4 hl4 at4 w4 => ?_
    rw [List.append_nil, List.append_nil] at at4
    refine ⟨by rw [w4 vs ht, wipe_wipe], Γ2, _, at4, q, fun b H5 f5 at5 q5 => ?_⟩
    have L5 : LcSt c σ Γ Z H1 D ds H5 := L3.fx fr.1 zs f5 at5.J
    cases b with
    | false => exact ⟨ds, q5, L5⟩
    | true =>
      refine ⟨Γ2, _, at5, q5, fun y H6 r f6 at6 r6 ⟨yd, er, hz, iv'⟩ => ?_⟩
      subst er
      obtain ⟨⟨acc, hacc, dacc, iacc⟩, at6', z6, kp6, tx6⟩ := L5.fx fr.1 zs f6 at6.J
      have t6 : TEx H6 (upd H6 D (.lst (acc ++ [y]))) := tex_lst hacc
      refine ⟨acc, hacc, by rw [dpAll_length dacc]; exact hz, ds ++ [yd], iv', ⟨acc ++ [y], upd_same, dpAll_append (dpAll_mono t6 _ _ iacc dacc) (.cons (dp_mono t6 _ _ r6.2 r6.1) .nil), by simp [immAll_append, iacc, immAll, r6.2]⟩, at6'.other fr.2 hacc noD, zs _ _ z6 t6 fun a o n h1 e => ?_, fun a o n nd e => by rw [upd_ne nd]; exact kp6 a o n nd e, fun a xs r => t6 a xs (tx6 a xs r)⟩
      rw [upd_ne fun z => h1 (by rw [z]; exact hD)]
      exact e
  · have e : i = items.length := by omega
    subst e
    refine .inl ⟨yl.stop _ H2 L2_.z (Nat.le_refl _), ?_⟩
    obtain ⟨⟨acc, hacc, dacc, iacc⟩, at2, z2, kp2, tx2⟩ := L2_
    have f2 : Fx c.S H H2 := ⟨fun a o n e => kp2 a o n (ne_of_none (f1.keep a o n e) hD) (f1.keep a o n e), fun a xs r => tx2 a xs (f1.tup a xs r)⟩
    exact k (.ref D) H2 (.new ds) f2 at2 (rr_new (f1.free fr.1 hD) fr.1 hacc dacc iacc) (iend ds iv)
theorem ae_lc {elt : Expr} {iter : Expr} {ifs : List Expr} {scope : Scope} {own : List (Str × Nat)} {I : XI} {t : Tgt} {T : XT} {E : XE} (hc : X.calm = true) (hN : X.N.Nodup) (hi : PIa X c tg iter I) (ok : BlkOk X.N X.env.scope scope own)
    (hg : ∀ (s : Shared) (H : Hp) (C : Addr) (cl : List (Str × Addr)) (fp : List Addr), PGa (X.blk s H scope (compEnvC scope cl C X.env) fp) c tg t) (ht : ∀ (s : Shared) (H : Hp) (C : Addr) (cl : List (Str × Addr)) (fp : List Addr), PTsa (X.blk s H scope (compEnvC scope cl C X.env) fp) c ifs T)
    (he : ∀ (s : Shared) (H : Hp) (C : Addr) (cl : List (Str × Addr)) (fp : List Addr), PEa (X.blk s H scope (compEnvC scope cl C X.env) fp) c elt E) (hs : ∀ x, foldedSetIterable iter X.env x = pure x := by intro _; rfl) (hv : ∀ j ∈ t.slots, j ∈ own.map (·.2) := by decide) :
    PEa X c (.ListComp elt [⟨tg, iter, ifs, 0⟩] scope pos) (aLc I t T E (own.map (·.2))) :=
  ⟨pe_imp (pe_lc hc hN hi.pi ok (fun s H C cl fp => (hg s H C cl fp).pg) (fun s H C cl fp => (ht s H C cl fp).pts) (fun s H C cl fp => (he s H C cl fp).pe) hs) (lc_imp hv)⟩
end
end Ab

namespace Ab
open PySem PySem.Spec PyProof.Rows L2

/-! ### statements: the ends with what stands beside (τ, Δ) -/
structure EndsG (c : Ctx) (τ : L2.St) (Δ : Gam) (D : AD) (E : Ends) : Prop where
  nx : ∀ Γ σ H, D.nx Γ → σ.length = Γ.length → At c (σ ++ τ) H (Γ ++ Δ) → E.nx σ H
  bk : ∀ Γ σ H, D.bk Γ → σ.length = Γ.length → At c (σ ++ τ) H (Γ ++ Δ) → E.bk σ H
  ct : ∀ Γ σ H, D.ct Γ → σ.length = Γ.length → At c (σ ++ τ) H (Γ ++ Δ) → E.ct σ H
  rt : ∀ v H r, Fx c.S c.H0 H → c.J H → RR c c.H0 H v r → D.rt r → E.rt v H
def gSt (c : Ctx) (A : XS) : TS := fun E σ H => ∃ Γ Δ τ D, σ.length = Γ.length ∧ At c (σ ++ τ) H (Γ ++ Δ) ∧ A D Γ ∧ EndsG c τ Δ D E
structure PSt (X : Cx) (c : Ctx) (s : Stmt) (A : XS) : Prop where
  ps : PS X s (gSt c A)
structure PSts (X : Cx) (c : Ctx) (s : List Stmt) (A : XS) : Prop where
  ps : PSs X s (gSt c A)
section
variable {X : Cx} {c : Ctx} {e a b tg : Expr} {A B : XE} {T : XT} {pos p : Pos} {S U : XS} {st : Stmt} {rest : List Stmt}
/-- an expression within a statement -/
theorem gE_st {σ τ : L2.St} {Γ Δ : Gam} {H : Hp} {P : RV → Prop} {Q : VK} (hl : σ.length = Γ.length) (at_ : At c (σ ++ τ) H (Γ ++ Δ)) (h : A Γ P) (k : ∀ v H' r, Fx c.S H H' → At c (σ ++ τ) H' (Γ ++ Δ) → RR c H H' v r → P r → Q v H') : gE c A σ H Q :=
  ⟨Γ, P, at_.left hl, h, fun v H' r f a r1 p => k v H' r f (at_.grow f a.J) r1 p⟩
theorem gT_st {σ τ : L2.St} {Γ Δ : Gam} {H : Hp} {P : Bool → Prop} {Q : Bool → Hp → Prop} (hl : σ.length = Γ.length) (at_ : At c (σ ++ τ) H (Γ ++ Δ)) (h : T Γ P) (k : ∀ b H', Fx c.S H H' → At c (σ ++ τ) H' (Γ ++ Δ) → P b → Q b H') : gT c T σ H Q :=
  ⟨Γ, P, at_.left hl, h, fun b H' f a p => k b H' f (at_.grow f a.J) p⟩
def sNil : XS := fun D Γ => D.nx Γ
def sSeq (S U : XS) : XS := fun D Γ => S { D with nx := fun Γ' => U D Γ' } Γ
theorem ss_nil : PSts X c [] sNil := ⟨pss_imp pss_nil fun E σ H ⟨Γ, Δ, τ, D, hl, at_, p, k⟩ => k.nx Γ σ H p hl at_⟩
theorem ss_cons (h1 : PSt X c st S) (h2 : PSts X c rest U) : PSts X c (st :: rest) (sSeq S U) := ⟨pss_imp (pss_cons h1.ps h2.ps) fun E σ H ⟨Γ, Δ, τ, D, hl, at_, p, k⟩ =>
  ⟨Γ, Δ, τ, _, hl, at_, p, ⟨fun Γ' σ' H' p' hl' a' => ⟨Γ', Δ, τ, D, hl', a', p', k⟩, k.bk, k.ct, k.rt⟩⟩⟩
theorem ss_one (h1 : PSt X c st S) : PSts X c [st] S := ⟨pss_one h1.ps⟩
def sRet (A : XE) : XS := fun D Γ => A Γ D.rt
theorem st_ret (ha : PEa X c e A) : PSt X c (.Return (some e) pos) (sRet A) := ⟨ps_imp (ps_ret ha.pe) fun E σ H ⟨Γ, Δ, τ, D, hl, at_, p, k⟩ =>
  gE_st hl at_ p fun v H' r f a r1 q => k.rt v H' r a.kp a.J (r1.back at_.kp) q⟩
def sRetN : XS := fun D Γ => D.rt (.dat .none)
theorem st_retN : PSt X c (.Return none pos) sRetN := ⟨ps_imp ps_retN fun E σ H ⟨Γ, Δ, τ, D, hl, at_, p, k⟩ => k.rt .non H _ at_.kp at_.J rr_non p⟩
def sDrop (A : XE) : XS := fun D Γ => A Γ fun _ => D.nx Γ
theorem st_expr (ha : PEa X c e A) (hs : swapsWith e none pos.line X.env = pure false := by rfl) : PSt X c (.Expr e pos) (sDrop A) := ⟨ps_imp (ps_expr ha.pe hs) fun E σ H ⟨Γ, Δ, τ, D, hl, at_, p, k⟩ =>
  gE_st hl at_ p fun v H' r f a r1 q => k.nx Γ σ H' q hl a⟩
theorem st_pass : PSt X c (.Pass pos) sNil := ⟨ps_imp ps_pass fun E σ H ⟨Γ, Δ, τ, D, hl, at_, p, k⟩ => k.nx Γ σ H p hl at_⟩
def sBrk : XS := fun D Γ => D.bk Γ
def sCnt : XS := fun D Γ => D.ct Γ
theorem st_break : PSt X c (.Break pos) sBrk := ⟨ps_imp ps_break fun E σ H ⟨Γ, Δ, τ, D, hl, at_, p, k⟩ => k.bk Γ σ H p hl at_⟩
theorem st_continue : PSt X c (.Continue pos) sCnt := ⟨ps_imp ps_continue fun E σ H ⟨Γ, Δ, τ, D, hl, at_, p, k⟩ => k.ct Γ σ H p hl at_⟩
def sNever : XS := fun _ _ => False
theorem st_never {s : Stmt} : PSt X c s sNever := ⟨ps_imp ps_never fun E σ H ⟨Γ, Δ, τ, D, hl, at_, p, k⟩ => p⟩
def sIf (T : XT) (S U : XS) : XS := fun D Γ => T Γ fun b => if b = true then S D Γ else U D Γ
theorem st_if {body orelse : List Stmt} (ht : PTa X c e T) (h1 : PSts X c body S) (h2 : PSts X c orelse U) : PSt X c (.If e body orelse pos) (sIf T S U) := ⟨ps_imp (ps_if ht.pt h1.ps h2.ps) fun E σ H ⟨Γ, Δ, τ, D, hl, at_, p, k⟩ =>
  gT_st hl at_ p fun b H' f a q => by
    cases b with
    | true => exact ⟨Γ, Δ, τ, D, hl, a, q, k⟩
    | false => exact ⟨Γ, Δ, τ, D, hl, a, q, k⟩⟩
/-- what a slot holds of a result -/
def RV.slot : RV → Option G
  | .dat d => some (.dat d)
  | .new ds => some (.own ds)
  | .vw ds => some (.vw ds)
  | .obj p => some (.obj p)
  | .al _ => none
theorem store_at {σ τ : L2.St} {Γ Δ : Gam} {H H' : Hp} {v : V} {r : RV} {g : G} {i : Nat} (a0 : At c (σ ++ τ) H (Γ ++ Δ)) (a : At c (σ ++ τ) H' (Γ ++ Δ)) (hl : σ.length = Γ.length) (hr : RR c H H' v r) (hg : r.slot = some g) (hi : i < Γ.length) :
    At c (σ.set i (some v) ++ τ) H' (Γ.set i (some g) ++ Δ) := by
  have hi2 : i < (Γ ++ Δ).length := by rw [List.length_append]; omega
  have e1 : (σ ++ τ).set i (some v) = σ.set i (some v) ++ τ := List.set_append_left _ _ (by omega)
  have e2 : (Γ ++ Δ).set i (some g) = Γ.set i (some g) ++ Δ := List.set_append_left _ _ hi
  rw [← e1, ← e2]
  cases r with
  | dat d => cases hg; exact a.setD hr (fun ds z => by cases z) hi2
  | new ds =>
    cases hg
    obtain ⟨x, vs, rfl, h1, h2, h3, h4, h5⟩ := hr
    exact a.setO a0 ⟨x, vs, rfl, (a0.fresh h1).2, h2, h3, h4, h5⟩ h1 hi2
  | vw ds =>
    cases hg
    obtain ⟨x, vs, rfl, h2, h0, h3, h4, h5⟩ := hr
    exact a.setD ⟨x, vs, rfl, h2, h0, h4, h5⟩ (fun ds z => by cases z) hi2
  | obj q => cases hg; exact a.setD (g := .obj q) hr (fun ds z => by cases z) hi2
  | al ds => cases hg
def sSet (i : Nat) (A : XE) : XS := fun D Γ => A Γ fun r => ∃ g, r.slot = some g ∧ i < Γ.length ∧ D.nx (Γ.set i (some g))
theorem st_set (i : Nat) {x : Str} {pos' : Pos} (hN : X.N.Nodup) (ha : PEa X c e A) (hi : X.N[i]? = some x := by rfl) (hx : Loc X.env.scope x := by first | exact .inl rfl | exact .inr rfl) (hs : swapsWith e (some (.Name x pos')) pos.line X.env = pure false := by rfl)
    (hf : X.fn x = true ∨ X.env.scope.names.lookup x = some .local := by first | exact .inl rfl | exact .inr rfl | assumption) : PSt X c (.Assign [.Name x pos'] e pos) (sSet i A) :=
  ⟨ps_imp (ps_set (i := i) hN hi hx ha.pe hs hf) fun E σ H ⟨Γ, Δ, τ, D, hl, at_, p, k⟩ =>
    gE_st hl at_ p fun v H' r f a r1 ⟨g, hg, hi, q⟩ => k.nx _ _ H' q (by simp [hl]) (store_at at_ a hl r1 hg hi)⟩
/-- name = [..] on one line -/
theorem st_setLc (i : Nat) {y : Str} {py spos : Pos} {elt iter : Expr} {ifs : List Expr} {scope : Scope} {own : List (Str × Nat)} {I : XI} {t : Tgt} {T : XT} {E : XE} (hc : X.calm = true) (hN : X.N.Nodup) (hi : PIa X c tg iter I) (ok : BlkOk X.N X.env.scope scope own)
    (hg : ∀ (s : Shared) (H : Hp) (C : Addr) (cl : List (Str × Addr)) (fp : List Addr), PGa (X.blk s H scope (compEnvC scope cl C X.env) fp) c tg t) (ht : ∀ (s : Shared) (H : Hp) (C : Addr) (cl : List (Str × Addr)) (fp : List Addr), PTsa (X.blk s H scope (compEnvC scope cl C X.env) fp) c ifs T)
    (he : ∀ (s : Shared) (H : Hp) (C : Addr) (cl : List (Str × Addr)) (fp : List Addr), PEa (X.blk s H scope (compEnvC scope cl C X.env) fp) c elt E) (hv : ∀ j ∈ t.slots, j ∈ own.map (·.2) := by decide) (hy : X.N[i]? = some y := by rfl) (hyl : X.env.scope.names.lookup y = some .local := by rfl)
    (hsw : swapsWith (.ListComp elt [⟨tg, iter, ifs, 0⟩] scope pos) (some (.Name y py)) spos.line X.env = pure true := by exact sw_true rfl rfl rfl (by decide +kernel)) (hs : ∀ x, foldedSetIterable iter X.env x = pure x := by intro _; rfl) :
    PSt X c (.Assign [.Name y py] (.ListComp elt [⟨tg, iter, ifs, 0⟩] scope pos) spos) (sSet i (aLc I t T E (own.map (·.2)))) :=
  ⟨ps_imp (ps_setLc (i := i) hc hN hy hyl hsw hi.pi ok (fun s H C cl fp => (hg s H C cl fp).pg) (fun s H C cl fp => (ht s H C cl fp).pts) (fun s H C cl fp => (he s H C cl fp).pe) hs) fun E' σ H ⟨Γ, Δ, τ, D, hl, at_, p, k⟩ =>
    lc_imp hv σ H _ (gE_st hl at_ p fun v H' r f a r1 ⟨g, hg, hi, q⟩ => k.nx _ _ H' q (by simp [hl]) (store_at at_ a hl r1 hg hi))⟩
/-- targets of an assignment: a tuple of names -/
def sAsgT (t : Tgt) (A : XE) : XS := fun D Γ => A Γ fun r => ∃ d Γ', r = .dat d ∧ t.go d Γ = some Γ' ∧ D.nx Γ'
theorem st_asgT {t : Tgt} (ha : PEa X c e A) (hg : PGa X c tg t) (hs : swapsWithSole [tg] e pos.line X.env = pure false := by rfl) (hw : swappedStores [tg] e X.env = pure none := by rfl) (h1 : (assignEach [tg] X.env).map (·.2) = [assign tg X.env] := by rfl) : PSt X c (.Assign [tg] e pos) (sAsgT t A) :=
  ⟨ps_imp (ps_asg ha.pe hg.pg hs hw h1) fun E σ H ⟨Γ, Δ, τ, D, hl, at_, p, k⟩ =>
    gE_st hl at_ p fun v H' r f a r1 ⟨d, Γ', er, eg, q⟩ => by
      subst er
      exact tgt_run r1.1 r1.2 hl a eg fun σ' hl' a' _ => k.nx Γ' σ' H' q hl' a'⟩
/-- a, b = x, y -/
def sPar (i j : Nat) (A B : XE) : XS := fun D Γ => A Γ fun x => B Γ fun y => ∃ d e, x = .dat d ∧ y = .dat e ∧ i < Γ.length ∧ j < Γ.length ∧ D.nx ((Γ.set i (some (.dat d))).set j (some (.dat e)))
theorem st_par (i j : Nat) {x y : Str} {px py pt : Pos} {kt k2 pt2} (hc : X.calm = true) (hN : X.N.Nodup) (ha : PEa X c a A) (hb : PEa X c b B) (hw : swappedStores [.Tuple [.Name x px, .Name y py] kt pt] (.Tuple [a, b] k2 pt2) X.env = pure (some [x, y]) := by rfl) (hi : X.N[i]? = some x := by rfl) (hj : X.N[j]? = some y := by rfl) (hij : i ≠ j := by decide)
    (hx : X.env.scope.names.lookup x = some .local := by rfl) (hy : X.env.scope.names.lookup y = some .local := by rfl) (hs1 : starEach [a, b] X.env = (false, eval a X.env) :: starEach [b] X.env := by rfl) (hs2 : starEach [b] X.env = (false, eval b X.env) :: starEach [] X.env := by rfl)
    (hs : swapsWithSole [.Tuple [.Name x px, .Name y py] kt pt] (.Tuple [a, b] k2 pt2) pos.line X.env = pure false := by rfl) : PSt X c (.Assign [.Tuple [.Name x px, .Name y py] kt pt] (.Tuple [a, b] k2 pt2) pos) (sPar i j A B) :=
  ⟨ps_imp (ps_par hc hN hi hj hij hx hy (pa_cons ha.pe (pa_cons hb.pe pa_nil hs2) hs1) hw hs) fun E σ H ⟨Γ, Δ, τ, D, hl, at_, p, k⟩ => by
    refine gE_st hl at_ p fun v H1 r1 f1 a1 rr1 q1 => gE_st hl a1 q1 fun u H2 r2 f2 a2 rr2 ⟨d, e, e1, e2, l1, l2, q⟩ => ?_
    subst e1 e2
    have rr1' := rr1.mono f2
    refine ⟨v, u, rfl, k.nx _ _ H2 q (by simp [hl]) ?_⟩
    have s1 := store_at (i := i) (v := v) (r := .dat d) at_ a2 hl rr1' rfl l1
    have hl1 : (σ.set i (some v)).length = (Γ.set i (some (G.dat d))).length := by simp [hl]
    exact store_at (i := j) (v := u) (r := .dat e) s1 s1 hl1 rr2 rfl (by simpa using l2)⟩
/-- x += e, of ints -/
def sAug (i : Nat) (f : Int → Int → Int) (A : XE) : XS := fun D Γ => ∃ m, Γ[i]? = some (some (.dat (.int m))) ∧ A Γ fun r => ∃ n, r = .dat (.int n) ∧ D.nx (Γ.set i (some (.dat (.int (f m n)))))
theorem st_aug (i : Nat) {x : Str} {op : Operator} {f : Int → Int → Int} {pos' : Pos} (hN : X.N.Nodup) (ho : PIp X op (ipI f)) (ha : PEa X c e A) (hi : X.N[i]? = some x := by rfl) (hx : Loc X.env.scope x := by first | exact .inl rfl | exact .inr rfl)
    (hf : X.fn x = true ∨ X.env.scope.names.lookup x = some .local := by first | exact .inl rfl | exact .inr rfl | assumption) : PSt X c (.AugAssign (.Name x pos') op e pos) (sAug i f A) :=
  ⟨ps_imp (ps_aug (i := i) hN hi hx ha.pe ho hf) fun E σ H ⟨Γ, Δ, τ, D, hl, at_, ⟨m, hm, p⟩, k⟩ => by
    have il : i < Γ.length := (List.getElem?_eq_some_iff.mp hm).1
    obtain ⟨v, h1, h2, _⟩ := (at_.left hl).slot i _ hm
    cases h2
    refine ⟨.int m, h1, gE_st hl at_ p fun v H' r f a r1 ⟨n, er, q⟩ => ?_⟩
    subst er
    cases r1.ro.int
    exact ⟨m, n, rfl, rfl, k.nx _ _ H' q (by simp [hl]) (store_at at_ a hl (rr_int _) rfl il)⟩⟩
/-- while -/
def sWhile (T : XT) (S : XS) : XS := fun D Γ => ∃ W : Nat → Gam → Prop, (∃ m, W m Γ) ∧ ∀ m Γ1, W m Γ1 → T Γ1 fun b => if b = true then S { nx := fun Γ' => ∃ m', m' < m ∧ W m' Γ', ct := fun Γ' => ∃ m', m' < m ∧ W m' Γ', bk := D.nx, rt := D.rt } Γ1 else D.nx Γ1
theorem st_while {body : List Stmt} (hp : PassesOwn (model X.prog X.w) X.A X.env X.xe) (ht : PTa X c e T) (hb : PSts X c body S) : PSt X c (.While e body [] pos) (sWhile T S) := ⟨ps_imp (ps_while hp ht.pt hb.ps) fun E σ H ⟨Γ, Δ, τ, D, hl, at_, ⟨W, ⟨m0, w0⟩, step⟩, k⟩ => by
  refine ⟨fun m σ1 H1 => ∃ Γ1, W m Γ1 ∧ σ1.length = Γ1.length ∧ At c (σ1 ++ τ) H1 (Γ1 ++ Δ), ⟨m0, Γ, w0, hl, at_⟩, ?_⟩
  rintro m σ1 H1 ⟨Γ1, w1, hl1, a1⟩
  refine gT_st hl1 a1 (step m Γ1 w1) fun b H2 f2 a2 q2 => ?_
  cases b with
  | false => exact k.nx Γ1 σ1 H2 q2 hl1 a2
  | true =>
    refine ⟨fun σ' H' => ∃ m', m' < m ∧ ∃ Γ', W m' Γ' ∧ σ'.length = Γ'.length ∧ At c (σ' ++ τ) H' (Γ' ++ Δ), fun σ' H' ⟨m', hm, Γ', w', hl', a'⟩ => ⟨m', hm, Γ', w', hl', a'⟩, Γ1, Δ, τ, _, hl1, a2, q2, ?_⟩
    exact ⟨fun Γ' σ' H' ⟨m', hm, w'⟩ hl' a' => ⟨m', hm, Γ', w', hl', a'⟩, k.nx, fun Γ' σ' H' ⟨m', hm, w'⟩ hl' a' => ⟨m', hm, Γ', w', hl', a'⟩, k.rt⟩⟩
/-- for -/
def sFor (I : XI) (t : Tgt) (S : XS) : XS := fun D Γ => I Γ fun items gh => gh = true ∧ ∃ W : Nat → Gam → Prop, W 0 Γ ∧ (∀ (i : Nat) d, items[i]? = some d → ∀ Γ1, W i Γ1 → ∃ Γ2, t.go d Γ1 = some Γ2 ∧ S { nx := W (i + 1), ct := W (i + 1), bk := D.nx, rt := D.rt } Γ2) ∧ ∀ Γ1, W items.length Γ1 → D.nx Γ1
theorem st_for {iter : Expr} {body : List Stmt} {I : XI} {t : Tgt} (hp : PassesOwn (model X.prog X.w) X.A X.env X.xe) (hc : X.calm = true) (hi : PIa X c tg iter I) (hg : PGa X c tg t) (hb : PSts X c body S) (hs : ∀ x, foldedSetIterable iter X.env x = pure x := by intro _; rfl) :
    PSt X c (.For tg iter body [] pos) (sFor I t S) := ⟨ps_imp (ps_for hp hc hi.pi hg.pg hb.ps hs) fun E σ H ⟨Γ, Δ, τ, D, hl, at_, p, k⟩ => by
  refine ⟨Γ, _, at_.left hl, p, fun J H1 items gh Z f1 at1 z1 zs gho yl ⟨eg, W, w0, step, done⟩ => ?_⟩
  obtain ⟨τ', Δ', push, zat⟩ := gho eg
  have aW := push τ Δ at_ (at_.grow f1 at1.J)
  refine ⟨fun i m σ1 H2 => m = items.length - i ∧ i ≤ items.length ∧ ∃ Γ1, W i Γ1 ∧ σ1.length = Γ1.length ∧ At c (σ1 ++ (τ ++ τ')) H2 (Γ1 ++ (Δ ++ Δ')), ⟨items.length, by omega, by omega, Γ, w0, hl, aW⟩, ?_⟩
  rintro i m σ1 H2 ⟨rfl, hi, Γ1, w1, hl1, a1⟩
  have hlτ : τ.length = Δ.length := by
    have := at_.len
    rw [List.length_append, List.length_append] at this
    omega
  have drop : ∀ {σ3 Γ3 H3}, σ3.length = Γ3.length → At c (σ3 ++ (τ ++ τ')) H3 (Γ3 ++ (Δ ++ Δ')) → At c (σ3 ++ τ) H3 (Γ3 ++ Δ) := fun {σ3 Γ3 H3} hl3 a3 => by
    rw [← List.append_assoc, ← List.append_assoc] at a3
    exact a3.left (by rw [List.length_append, List.length_append]; omega)
  have z2 : Z H2 := by
    have a2 := a1
    rw [← List.append_assoc, ← List.append_assoc] at a2
    exact zat _ _ _ a2 (by rw [List.length_append, List.length_append]; omega)
  by_cases hlt : i < items.length
  · refine .inr ⟨yl.go i H2 z2 hlt, fun σ' H' => i + 1 ≤ items.length ∧ ∃ Γ', W (i + 1) Γ' ∧ σ'.length = Γ'.length ∧ At c (σ' ++ (τ ++ τ')) H' (Γ' ++ (Δ ++ Δ')), fun σ' H' hN => ⟨items.length - (i + 1), by omega, rfl, hN⟩, fun x H3 hy => ?_⟩
    obtain ⟨f3, z3, d, hd, dp3, id3⟩ := yl.yld i H2 x H3 z2 hlt hy
    obtain ⟨Γ2, et, q⟩ := step i d hd Γ1 w1
    refine tgt_run dp3 id3 hl1 (a1.ext f3) et fun σ4 hl4 a4 _ => ⟨Γ2, Δ ++ Δ', τ ++ τ', _, hl4, a4, q, ?_⟩
    exact ⟨fun Γ' σ' H' w' hl' a' => ⟨by omega, Γ', w', hl', a'⟩, fun Γ' σ' H' q' hl' a' => k.nx Γ' σ' H' q' hl' (drop hl' a'), fun Γ' σ' H' w' hl' a' => ⟨by omega, Γ', w', hl', a'⟩, k.rt⟩
  · have e : i = items.length := by omega
    subst e
    exact .inl ⟨yl.stop _ H2 z2 (Nat.le_refl _), k.nx Γ1 σ1 H2 (done Γ1 w1) hl1 (drop hl1 a1)⟩⟩
/-- own lists: append, extend by a new one, xs[i] = v -/
def sApp (i : Nat) (A : XE) : XS := fun D Γ => ∃ ds, Γ[i]? = some (some (.own ds)) ∧ A Γ fun r => ∃ d, r = .dat d ∧ ds.length < sizeLine ∧ D.nx (Γ.set i (some (.own (ds ++ [d]))))
theorem own_at {σ τ : L2.St} {Γ Δ : Gam} {H : Hp} {i : Nat} {ds : List PyData} (a : At c (σ ++ τ) H (Γ ++ Δ)) (hl : σ.length = Γ.length) (e : Γ[i]? = some (some (.own ds))) : ∃ x vs, σ[i]? = some (some (.ref x)) ∧ H x = some (.lst vs) ∧ DpAll c.K H vs ds ∧ immAll ds = true ∧ x ∉ c.S := by
  obtain ⟨v, h1, x, vs, h2, h3, h4, h5, h6, h7⟩ := (a.left hl).slot i _ e
  subst h2
  exact ⟨x, vs, h1, h5, h6, h7, h4⟩
theorem write_at {σ τ : L2.St} {Γ Δ : Gam} {H : Hp} {i : Nat} {x : Addr} {vs : List V} {ds es : List PyData} (a : At c (σ ++ τ) H (Γ ++ Δ)) (hl : σ.length = Γ.length) (e : Γ[i]? = some (some (.own ds))) (h1 : σ[i]? = some (some (.ref x))) (hd : DpAll c.K H vs es) (hi : immAll es = true) :
    At c (σ ++ τ) (upd H x (.lst vs)) (Γ.set i (some (.own es)) ++ Δ) := by
  have il : i < Γ.length := (List.getElem?_eq_some_iff.mp e).1
  have := a.write (i := i) (x := x) (ds := ds) (by rw [List.getElem?_append_left il]; exact e) (by rw [List.getElem?_append_left (by omega)]; exact h1) hd hi
  rw [List.set_append_left _ _ il] at this
  exact this
theorem st_app (i : Nat) {x : Str} {px pa pc : Pos} {pl : Sem Bool} (ha : PEa X c e A) (hv : PE X (.Name x px) (tVar i)) (hm : PE X (.Call (.Attribute (.Name x px) "append" pa) [e] [] pc) (tBM X.K "list" rAppend (tVar i) (tCons (gE c A) tNil)) := by exact pe_bm PySem.F.plainAttrs_list PySem.F.slot_list_append PySem.F.type_list_append mt_append hv (pa_cons ha.pe pa_nil)) (hs : swapsWith (.Call (.Attribute (.Name x px) "append" pa) [e] [] pc) none pos.line X.env = pure false := by rfl)
    (hK : X.K = c.K := by rfl) : PSt X c (.Expr (.Call (.Attribute (.Name x px) "append" pa) [e] [] pc) pos) (sApp i A) := ⟨ps_imp (ps_expr hm hs) fun E σ H ⟨Γ, Δ, τ, D, hl, at_, ⟨ds, eΓ, p⟩, k⟩ => by
  obtain ⟨x, vs, h1, h2, h3, h4, h5⟩ := own_at at_ hl eΓ
  refine ⟨.ref x, h1, .inl ⟨rfl, _, SqL.of h2⟩, gE_st hl at_ p fun v H1 r f1 a1 r1 ⟨d, er, hz, q⟩ => ?_⟩
  subst er
  have h2' := f1.keep x _ h5 h2
  refine ⟨x, vs, v, rfl, rfl, h2', by rw [dpAll_length h3]; exact hz, k.nx _ _ _ q (by simp [hl]) ?_⟩
  exact write_at a1 hl eΓ h1 (dpAll_append (dpAll_mono f1.tup _ _ h4 h3) (.cons r1.1 .nil)) (by simp [immAll_append, h4, immAll, r1.2])⟩
def sPut (i : Nat) (A B : XE) : XS := fun D Γ => B Γ fun y => ∃ d ds, y = .dat d ∧ Γ[i]? = some (some (.own ds)) ∧ A Γ fun x => ∃ k j, x = .dat (.int k) ∧ ixN ds.length k = some j ∧ D.nx (Γ.set i (some (.own (ds.set j d))))
theorem st_put (i : Nat) {x : Str} {px ps : Pos} (hv : PE X (.Name x px) (tVar i)) (ha : PEa X c a A) (hb : PEa X c b B)
    (has : ∀ v, assign (.Subscript (.Name x px) a ps) X.env v = (do
      let ov ← holding [v] (eval (.Name x px) X.env)
      let iv ← holding [v, ov] (eval a X.env)
      standAt ps
      holding [v, ov, iv] (setItem ov iv v)
      release [v, ov, iv] []) := by intro _; rfl)
    (hs : swapsWithSole [.Subscript (.Name x px) a ps] b pos.line X.env = pure false := by rfl) (hw : swappedStores [.Subscript (.Name x px) a ps] b X.env = pure none := by rfl) (h1 : (assignEach [.Subscript (.Name x px) a ps] X.env).map (·.2) = [assign (.Subscript (.Name x px) a ps) X.env] := by rfl) :
    PSt X c (.Assign [.Subscript (.Name x px) a ps] b pos) (sPut i A B) := ⟨ps_imp (ps_asg hb.pe (pg_sub hv ha.pe set_list has) hs hw h1) fun E σ H ⟨Γ, Δ, τ, D, hl, at_, p, k⟩ => by
  refine gE_st hl at_ p fun v H1 r f1 a1 r1 ⟨d, ds, er, eΓ, q⟩ => ?_
  subst er
  obtain ⟨x, vs, h1, h2, h3, h4, h5⟩ := own_at a1 hl eΓ
  refine ⟨.ref x, h1, gE_st hl a1 q fun u H2 r2 f2 a2 rr2 ⟨m, j, er, hj, q2⟩ => ?_⟩
  subst er
  cases rr2.ro.int
  have h2' := f2.keep x _ h5 h2
  have r1' := r1.mono f2
  refine ⟨x, vs, m, j, rfl, rfl, h2', by rw [dpAll_length h3]; exact hj, k.nx _ _ _ q2 (by simp [hl]) ?_⟩
  exact write_at a2 hl eΓ h1 (dpAll_set r1'.1 j (dpAll_mono f2.tup _ _ h4 h3)) (immAll_set j r1'.2 h4)⟩

/-! ### a def, from its body -/
def argG : RV → Option G
  | .dat d => some (.dat d)
  | .vw ds => some (.vw ds)
  | .obj p => some (.obj p)
  | _ => none
/-- the environment at the entry -/
def gam0 (N : List Str) (rs : List RV) : Gam := rs.map argG ++ List.replicate (N.length - rs.length) none
theorem start_at {K : PySem.W.Frag} {S : List Addr} {J : Hp → Prop} {H : Hp} {N : List Str} (ok : (cx0 K S J H).Ok) {vs : List V} {rs : List RV} (h : Paired (ArgR K S H) vs rs) : At (cx0 K S J H) (L2.start N vs) H (gam0 N rs) := by
  have hlen : vs.length = rs.length := by
    clear ok
    induction h with
    | nil => rfl
    | cons _ _ ih => simp [ih]
  have get : ∀ {vs : List V} {rs : List RV} (i : Nat) (r : RV), Paired (ArgR K S H) vs rs → rs[i]? = some r → ∃ v, vs[i]? = some v ∧ ArgR K S H v r := by
    intro vs rs i r h
    induction h generalizing i with
    | nil => intro e; simp at e
    | cons a t ih =>
      intro e
      cases i with
      | zero => simp at e; subst e; exact ⟨_, rfl, a⟩
      | succ i =>
        obtain ⟨v, h1, h2⟩ := ih i (by simpa using e)
        exact ⟨v, by simpa using h1, h2⟩
  have noOwn : ∀ (i : Nat) ds, (gam0 N rs)[i]? ≠ some (some (.own ds)) := fun i ds z => by
    unfold gam0 at z
    by_cases hi : i < rs.length
    · rw [List.getElem?_append_left (by simpa using hi), List.getElem?_map] at z
      cases e : rs[i]? with
      | none => rw [e] at z; cases z
      | some r =>
        rw [e] at z
        cases r <;> simp [argG] at z
    · rw [List.getElem?_append_right (by simpa using Nat.le_of_not_lt hi), List.getElem?_replicate] at z
      split at z <;> simp at z
  refine ⟨ok, ?_, fun i g e => ?_, fun i j v ds es e1 _ _ _ => absurd e1 (noOwn i ds), Fx.refl H, ok.j0⟩
  · unfold L2.start gam0
    simp [hlen]
  · unfold gam0 at e
    by_cases hi : i < rs.length
    · rw [List.getElem?_append_left (by simpa using hi), List.getElem?_map] at e
      cases q : rs[i]? with
      | none => rw [q] at e; cases e
      | some r =>
        rw [q] at e
        obtain ⟨v, h1, h2⟩ := get i r h q
        refine ⟨v, ?_, ?_⟩
        · unfold L2.start
          rw [List.getElem?_append_left (by rw [List.length_map, hlen]; exact hi), List.getElem?_map, h1]
          rfl
        · cases r with
          | dat d => simp [argG] at e; subst e; exact h2
          | vw ds =>
            simp [argG] at e
            subst e
            obtain ⟨a, ws, rfl, g1, g2, _, g3, g4⟩ := h2
            exact ⟨a, ws, rfl, g1, g2, g3, g4⟩
          | obj p => simp [argG] at e; subst e; exact h2
          | new ds => simp [argG] at e
          | al ds => simp [argG] at e
    · rw [List.getElem?_append_right (by simpa using Nat.le_of_not_lt hi), List.getElem?_replicate] at e
      split at e <;> simp at e
/-- how a body ends -/
def fin (P : RV → Prop) : AD := ⟨fun _ => P (.dat .none), fun _ => False, fun _ => False, fun r => r.ret = true ∧ P r⟩
theorem ok_pure (K : PySem.W.Frag) (H : Hp) : (cx0 K [] (fun _ => True) H).Ok := ⟨True.intro, fun _ _ s h => by simp [cx0] at h, fun _ _ _ _ => True.intro⟩
theorem def_pure {P : Program} {w : World} {K : PySem.W.Frag} {mg : Str → Option Value} {base : Heap} {x qual : Str} {st : Stmt} {f : Addr} {fd : FuncData} {N ps : List Str} {k : Nat} {asp : Asp} (F : Fun K x qual st f fd) (Sc : FnScope N ps (defScope st)) (hlen : ∀ rs P, asp rs P → rs.length = ps.length)
    (hbody : ∀ (cdv : Value) (A : Around) (outer : List Env) (s : Shared) (H : Hp) (E : XK), Room k (A.deeper (envOfC qual (defScope st) s.heap.objs.size f cdv)) → ∃ B, PSts (cxOf CX0 P w K mg base N qual (defScope st) f cdv A outer s H E).nox (cx0 K [] (fun _ => True) H) (defBody st) B ∧ ∀ rs P, asp rs P → B (fin P) (gam0 N rs)) :
    FnOk P w K mg base CX0 (k + 1) f fd ps (pSp K asp) := by
  refine F.ok Sc (fun vs H Q E ⟨rs, R, h1, h2, _⟩ => ?_) (fun cdv A outer s H vs Q E hr ⟨rs, R, h1, h2, h3⟩ => ?_)
  · rw [Paired.length h1]
    exact hlen rs R h2
  · obtain ⟨B, hB, q⟩ := hbody cdv A outer s H E hr
    have a0 := start_at (N := N) (ok_pure K H) h1
    refine ⟨_, hB.ps, gam0 N rs, [], [], fin R, a0.len, by rw [List.append_nil, List.append_nil]; exact a0, q rs R h2, ⟨fun Γ σ H' p hl a => ?_, fun Γ σ H' p => p.elim, fun Γ σ H' p => p.elim, fun v H' r fx j rr ⟨p1, p2⟩ => h3 v H' r fx rr p1 p2⟩⟩
    exact h3 .non H' (.dat .none) a.kp rr_non rfl p
theorem def_draw {P : Program} {w : World} {K : PySem.W.Frag} {T : List Addr} {mg : Str → Option Value} {base : Heap} {x qual : Str} {st : Stmt} {f : Addr} {fd : FuncData} {N ps : List Str} {k : Nat} {W : Addr → (Hp → Prop) → Prop} {asp : Addr → Asp} (F : Fun K x qual st f fd) (Sc : FnScope N ps (defScope st)) (hlen : ∀ a rs P, asp a rs P → rs.length = ps.length)
    (hok : ∀ a J H, W a J → J H → (cx0 K (a :: T) J H).Ok)
    (hbody : ∀ (cdv : Value) (A : Around) (outer : List Env) (s : Shared) (H : Hp) (E : XK) (a : Addr) (J : Hp → Prop), W a J → J H → Room k (A.deeper (envOfC qual (defScope st) s.heap.objs.size f cdv)) → ∃ B, PSts (cxOf CX0 P w K mg base N qual (defScope st) f cdv A outer s H E).nox (cx0 K (a :: T) J H) (defBody st) B ∧ ∀ rs P, asp a rs P → B (fin P) (gam0 N rs)) :
    FnOk P w K mg base CX0 (k + 1) f fd ps (dSp K T W asp) := by
  refine F.ok Sc (fun vs H Q E ⟨a, J, rs, R, _, _, h1, h2, _⟩ => ?_) (fun cdv A outer s H vs Q E hr ⟨a, J, rs, R, hW, hJ, h1, h2, h3⟩ => ?_)
  · rw [Paired.length h1]
    exact hlen a rs R h2
  · obtain ⟨B, hB, q⟩ := hbody cdv A outer s H E a J hW hJ hr
    have a0 := start_at (N := N) (hok a J H hW hJ) h1
    refine ⟨_, hB.ps, gam0 N rs, [], [], fin R, a0.len, by rw [List.append_nil, List.append_nil]; exact a0, q rs R h2, ⟨fun Γ σ H' p hl at_ => ?_, fun Γ σ H' p => p.elim, fun Γ σ H' p => p.elim, fun v H' r fx j rr ⟨p1, p2⟩ => h3 v H' r fx j rr p1 p2⟩⟩
    exact h3 .non H' (.dat .none) at_.kp at_.J rr_non rfl p
end
end Ab

namespace Ab
open PySem PySem.Spec PyProof.Rows L2

/-! ### how the transformers compute -/
section
variable {Γ : Gam} {P : RV → Prop} {i j : Int} {x y : Str} {xs ys : List PyData} {r : RV} {D : AD} {g : G} {o : Option G} {n : Nat}
theorem v_zero : aVar 0 (some g :: Γ) P = P g.rv := by
  unfold aVar
  simp
theorem v_succ : aVar (n + 1) (o :: Γ) P = aVar n Γ P := by
  unfold aVar
  simp
theorem c_eval {d : PyData} : aC d Γ P = P (.dat d) := rfl
theorem i_eval {C : Int → Int → Prop} {f : Int → Int → PyData} : oI C f (.dat (.int i)) (.dat (.int j)) P = (C i j ∧ P (.dat (f i j))) := by
  unfold oI
  simp
theorem add_ii : oAdd (.dat (.int i)) (.dat (.int j)) P = P (.dat (.int (i + j))) := by
  unfold oAdd oI oStrCat oTupCat oLstCat
  simp
theorem add_ss : oAdd (.dat (.str x)) (.dat (.str y)) P = (x.length + y.length ≤ sizeLine ∧ P (.dat (.str (x ++ y)))) := by
  unfold oAdd oI oStrCat oTupCat oLstCat
  simp
theorem add_tt : oAdd (.dat (.tuple xs)) (.dat (.tuple ys)) P = (xs.length + ys.length ≤ sizeLine ∧ P (.dat (.tuple (xs ++ ys)))) := by
  unfold oAdd oI oStrCat oTupCat oLstCat
  simp
theorem add_ll : oAdd (.new xs) (.new ys) P = (xs.length + ys.length ≤ sizeLine ∧ P (.new (xs ++ ys))) := by
  unfold oAdd oI oStrCat oTupCat oLstCat
  simp [RV.lst?]
theorem mul_ii : oMul (.dat (.int i)) (.dat (.int j)) P = (CMul i j ∧ P (.dat (.int (i * j)))) := by
  unfold oMul oI oTupRep oLstRep
  simp
theorem mul_ti : oMul (.dat (.tuple xs)) (.dat (.int j)) P = (-1000 ≤ j ∧ j ≤ 1000 ∧ xs.length ≤ 1000 ∧ P (.dat (.tuple (reps j xs)))) := by
  unfold oMul oI oTupRep oLstRep
  simp
theorem mul_li : oMul (.new xs) (.dat (.int j)) P = (-(2 ^ 63) ≤ j ∧ j < 2 ^ 63 ∧ xs.length * j.toNat ≤ sizeLine ∧ P (.new (reps j xs))) := by
  unfold oMul oI oTupRep oLstRep
  simp
theorem eq_eval {r q : RV} : oEq r q P = ∃ d e, r.dt? = some d ∧ q.dt? = some e ∧ SeqAt.shaped d = true ∧ SeqAt.shaped e = true ∧ P (.dat (.bool (PyData.eqv d e))) := rfl
theorem sh_int : SeqAt.shaped (.int i) = true := rfl
theorem sh_bool {b : Bool} : SeqAt.shaped (.bool b) = true := rfl
theorem sh_none : SeqAt.shaped .none = true := rfl
theorem eqv_ii : PyData.eqv (.int i) (.int j) = decide (i = j) := by
  show (i == j) = _
  rw [Bool.beq_eq_decide_eq]
theorem eqv_ss : PyData.eqv (.str x) (.str y) = decide (x = y) := by
  show (x == y) = _
  rw [Bool.beq_eq_decide_eq]
theorem eq_ii : oEq (.dat (.int i)) (.dat (.int j)) P = P (.dat (.bool (decide (i = j)))) := by
  unfold oEq
  simp [RV.dt?, sh_int, eqv_ii]
theorem ne_ii : oNe (.dat (.int i)) (.dat (.int j)) P = P (.dat (.bool (!decide (i = j)))) := by
  unfold oNe
  simp [RV.dt?, sh_int, eqv_ii]
theorem eqv_bb : ∀ a b : Bool, PyData.eqv (.bool a) (.bool b) = (a == b) := fun a b => rfl
theorem eq_bb {a b : Bool} : oEq (.dat (.bool a)) (.dat (.bool b)) P = P (.dat (.bool (a == b))) := by
  unfold oEq
  simp [RV.dt?, sh_bool, eqv_bb]
theorem ne_bb {a b : Bool} : oNe (.dat (.bool a)) (.dat (.bool b)) P = P (.dat (.bool (!(a == b)))) := by
  unfold oNe
  simp [RV.dt?, sh_bool, eqv_bb]
theorem is_n {d : PyData} : oIs (.dat d) (.dat .none) P = P (.dat (.bool (isNone d))) := by
  unfold oIs
  simp
theorem isn_n {d : PyData} : oIsn (.dat d) (.dat .none) P = P (.dat (.bool (!isNone d))) := by
  unfold oIsn
  simp
theorem is_b {a b : Bool} : oIs (.dat (.bool a)) (.dat (.bool b)) P = P (.dat (.bool (decide (a = b)))) := by
  unfold oIs
  simp
theorem isn_b {a b : Bool} : oIsn (.dat (.bool a)) (.dat (.bool b)) P = P (.dat (.bool (!decide (a = b)))) := by
  unfold oIsn
  simp
theorem ix_eval {q : RV} : oIx q (.dat (.int i)) P = ((∃ ds d, seqOf q = some ds ∧ atI ds i = some d ∧ P (.dat d)) ∨ ∃ z k, q = .dat (.str z) ∧ z.length ≤ sizeLine ∧ atI z.cps.toList i = some k ∧ P (.dat (.str ⟨#[k]⟩))) := by
  unfold oIx
  simp
theorem ix_t : oIx (.dat (.tuple xs)) (.dat (.int i)) P = ∃ d, atI xs i = some d ∧ P (.dat d) := by
  unfold oIx
  simp [seqOf]
theorem ix_n : oIx (.new xs) (.dat (.int i)) P = ∃ d, atI xs i = some d ∧ P (.dat d) := by
  unfold oIx
  simp [seqOf]
theorem ix_v : oIx (.vw xs) (.dat (.int i)) P = ∃ d, atI xs i = some d ∧ P (.dat d) := by
  unfold oIx
  simp [seqOf]
theorem ix_a : oIx (.al xs) (.dat (.int i)) P = ∃ d, atI xs i = some d ∧ P (.dat d) := by
  unfold oIx
  simp [seqOf]
theorem sl_t {l h : Option Int} : oSl (.dat (.tuple xs)) l h P = P (.dat (.tuple (cutD xs l h))) := by
  unfold oSl
  simp [RV.lst?]
theorem sl_n {l h : Option Int} : oSl (.new xs) l h P = P (.new (cutD xs l h)) := by
  unfold oSl
  simp [RV.lst?]
theorem sl_v {l h : Option Int} : oSl (.vw xs) l h P = P (.new (cutD xs l h)) := by
  unfold oSl
  simp [RV.lst?]
theorem sl_a {l h : Option Int} : oSl (.al xs) l h P = P (.new (cutD xs l h)) := by
  unfold oSl
  simp [RV.lst?]
theorem len_t : kLen [.dat (.tuple xs)] P = P (.dat (.int xs.length)) := by
  unfold kLen
  simp [lenOf]
theorem len_n : kLen [.new xs] P = P (.dat (.int xs.length)) := by
  unfold kLen
  simp [lenOf]
theorem len_v : kLen [.vw xs] P = P (.dat (.int xs.length)) := by
  unfold kLen
  simp [lenOf]
theorem len_a : kLen [.al xs] P = P (.dat (.int xs.length)) := by
  unfold kLen
  simp [lenOf]
theorem len_s : kLen [.dat (.str x)] P = (x.length ≤ sizeLine ∧ P (.dat (.int x.length))) := by
  unfold kLen
  simp [lenOf]
  exact ⟨fun ⟨_, ⟨a, e⟩, p⟩ => by subst e; exact ⟨a, p⟩, fun ⟨a, p⟩ => ⟨_, ⟨a, rfl⟩, p⟩⟩
theorem abs_eval : kAbs [.dat (.int i)] P = P (.dat (.int (if i < 0 then -i else i))) := by
  unfold kAbs
  simp
theorem int_eval : kInt [.dat (.int i)] P = P (.dat (.int i)) := by
  unfold kInt
  simp
theorem max_eval : kMax [.dat (.int i), .dat (.int j)] P = P (.dat (.int (max i j))) := by
  unfold kMax
  simp
  exact ⟨fun ⟨_, _, ⟨a, e⟩, p⟩ => a ▸ e ▸ p, fun p => ⟨_, _, ⟨rfl, rfl⟩, p⟩⟩
theorem min_eval : kMin [.dat (.int i), .dat (.int j)] P = P (.dat (.int (min i j))) := by
  unfold kMin
  simp
  exact ⟨fun ⟨_, _, ⟨a, e⟩, p⟩ => a ▸ e ▸ p, fun p => ⟨_, _, ⟨rfl, rfl⟩, p⟩⟩
theorem list_t : kList [.dat (.tuple xs)] P = P (.new xs) := by
  unfold kList
  simp [seqOf]
theorem list_n : kList [.new xs] P = P (.new xs) := by
  unfold kList
  simp [seqOf]
theorem list_v : kList [.vw xs] P = P (.new xs) := by
  unfold kList
  simp [seqOf]
theorem list_a : kList [.al xs] P = P (.new xs) := by
  unfold kList
  simp [seqOf]
theorem tuple_t : kTuple [.dat (.tuple xs)] P = P (.dat (.tuple xs)) := by
  unfold kTuple
  simp [seqOf]
theorem tuple_n : kTuple [.new xs] P = P (.dat (.tuple xs)) := by
  unfold kTuple
  simp [seqOf]
theorem tuple_v : kTuple [.vw xs] P = P (.dat (.tuple xs)) := by
  unfold kTuple
  simp [seqOf]
theorem tuple_a : kTuple [.al xs] P = P (.dat (.tuple xs)) := by
  unfold kTuple
  simp [seqOf]
theorem sum_eval {q : RV} : kSum [q] P = ∃ ds ns, seqOf q = some ds ∧ numsOf2 ds = some ns ∧ P (.dat (.int ns.sum)) := by
  unfold kSum
  simp
theorem isi_eval {d : PyData} {t : String} : kIsi [.dat d, .obj (isTyp t)] P = ∃ b, isinst t d = some b ∧ P (.dat (.bool b)) := by
  unfold kIsi
  apply propext
  constructor
  · rintro ⟨d', n, b, e, h, p⟩
    simp only [List.cons.injEq, RV.dat.injEq, RV.obj.injEq, and_true] at e
    obtain ⟨rfl, e⟩ := e
    have : t = n := by
      have h1 : isTyp t (.ty t) := rfl
      rw [e] at h1
      exact V.ty.inj h1
    subst this
    exact ⟨b, h, p⟩
  · rintro ⟨b, h, p⟩
    exact ⟨d, t, b, rfl, h, p⟩
theorem isi_bool_int : isinst "bool" (.int i) = some false := by
  show kitB "int" "bool" = some false
  decide +kernel
theorem isi_bool_bool {b : Bool} : isinst "bool" (.bool b) = some true := by
  show kitB "bool" "bool" = some true
  decide +kernel
theorem isi_tuple_tuple : isinst "tuple" (.tuple xs) = some true := by
  show kitB "tuple" "tuple" = some true
  decide +kernel
theorem rangeD_get {a b : Int} {k : Nat} {d : PyData} : (rangeD a b)[k]? = some d ↔ d = .int (a + (k : Nat)) ∧ k < (b - a).toNat := by
  unfold rangeD
  rw [List.getElem?_map]
  by_cases h : k < (b - a).toNat
  · rw [List.getElem?_range h]
    simp [h, eq_comm]
  · rw [List.getElem?_eq_none (by simpa using h)]
    simp [h]
theorem rangeD_len {a b : Int} : (rangeD a b).length = (b - a).toNat := by
  unfold rangeD
  rw [List.length_map, List.length_range]
theorem map_get {α : Type} {f : α → PyData} {l : List α} {k : Nat} {d : PyData} : (l.map f)[k]? = some d ↔ ∃ x, l[k]? = some x ∧ f x = d := by
  rw [List.getElem?_map, Option.map_eq_some_iff]
theorem atI_map {α : Type} {f : α → PyData} {l : List α} {i : Int} {d : PyData} : atI (l.map f) i = some d ↔ ∃ x, atI l i = some x ∧ f x = d := by
  unfold atI
  rw [List.length_map]
  cases ixN l.length i with
  | none => simp
  | some j => simpa using map_get (l := l) (k := j)
theorem atI_pos {α : Type} {l : List α} {i : Int} (h0 : 0 ≤ i) (h1 : i < l.length) : atI l i = l[i.toNat]? := by
  unfold atI ixN
  rw [if_pos h0, if_pos h1]
  rfl
theorem atI_getD {α : Type} {l : List α} {i : Int} (h0 : 0 ≤ i) (h1 : i < l.length) (d : α) : atI l i = some (l.getD i.toNat d) := by
  rw [atI_pos h0 h1]
  have : i.toNat < l.length := by omega
  simp [List.getD, List.getElem?_eq_getElem this]
def bI (b : Bool) : Int := if b = true then 1 else 0
theorem nums_bool : ∀ bs : List Bool, numsOf2 (bs.map .bool) = some (bs.map bI)
  | [] => rfl
  | b :: bs => by
    rw [List.map_cons, numsOf2, nums_bool bs]
    rfl
theorem nums_int : ∀ bs : List Int, numsOf2 (bs.map .int) = some bs
  | [] => rfl
  | b :: bs => by
    rw [List.map_cons, numsOf2, nums_int bs]
    rfl
theorem cdiv_pos {i j : Int} (h0 : 0 < j) (h1 : j < 1073741824) : CDivN i j := ⟨by omega, by omega⟩
theorem fdiv_pos {i j : Int} (h : 0 < j) : i.fdiv j = i / j := Int.fdiv_eq_ediv_of_nonneg i (by omega)
theorem fmod_pos {i j : Int} (h : 0 < j) : i.fmod j = i % j := Int.fmod_eq_emod_of_nonneg i (by omega)
theorem cmul_r {i j : Int} (h1 : -(2 ^ 64) < j) (h2 : j < 2 ^ 64) : CMul i j := .inr ⟨h1, h2⟩
theorem cmul_l {i j : Int} (h1 : -(2 ^ 64) < i) (h2 : i < 2 ^ 64) : CMul i j := .inl ⟨h1, h2⟩
theorem emod_div {a b : Int} : a % b + b * (a / b) = a := by
  have := Int.mul_ediv_add_emod a b
  omega
theorem cutD_map {α : Type} {f : α → PyData} {l : List α} {lo hi : Option Int} : cutD (l.map f) lo hi = (cutD l lo hi).map f := by
  unfold cutD
  rw [List.length_map, List.map_take, List.map_drop]
theorem sIx_pos {n d : Nat} {i : Int} (h : 0 ≤ i) : HT.sIx n d (some i) = min i.toNat n := by
  obtain ⟨k, e⟩ := Int.eq_ofNat_of_zero_le h
  subst e
  exact HT.sIx_nat n d k
theorem cutD_to {α : Type} {l : List α} {i : Int} (h : 0 ≤ i) : cutD l none (some i) = l.take i.toNat := by
  unfold cutD
  rw [sIx_pos h, HT.sIx_none, List.drop_zero, Nat.sub_zero, ← List.take_eq_take_min]
theorem cutD_from {α : Type} {l : List α} {i : Int} (h : 0 ≤ i) : cutD l (some i) none = l.drop i.toNat := by
  unfold cutD
  rw [sIx_pos h, HT.sIx_none]
  by_cases hi : i.toNat ≤ l.length
  · rw [Nat.min_eq_left hi]
    exact List.take_of_length_le (by rw [List.length_drop]; omega)
  · rw [Nat.min_eq_right (by omega), List.drop_eq_nil_of_le (Nat.le_refl _), List.drop_eq_nil_of_le (by omega), List.take_nil]
theorem reps_map {α : Type} {f : α → PyData} {k : Int} {l : List α} : reps k (l.map f) = (reps k l).map f := by
  unfold reps
  generalize k.toNat = n
  induction n with
  | zero => rfl
  | succ n ih => rw [List.replicate_succ, List.flatten_cons, List.replicate_succ, List.flatten_cons, List.map_append, ih]
theorem reps_len {α : Type} {k : Int} {l : List α} : (reps k l).length = k.toNat * l.length := by
  unfold reps
  generalize k.toNat = n
  induction n with
  | zero => simp
  | succ n ih => rw [List.replicate_succ, List.flatten_cons, List.length_append, ih, Nat.succ_mul, Nat.add_comm]
theorem sh_tup {xs : List PyData} (h : PyData.canLayAll0 xs = true) (d : PyData.depthAll xs ≤ 63) : SeqAt.shaped (.tuple xs) = true := by
  unfold SeqAt.shaped
  rw [PyData.canLay0, h, PyData.depth, decide_eq_true (by omega)]
  rfl
theorem flat_map {α : Type} {f : α → PyData} (h : ∀ x, PyData.canLay0 (f x) = true) (hd : ∀ x, PyData.depth (f x) = 0) (l : List α) : PyData.canLayAll0 (l.map f) = true ∧ PyData.depthAll (l.map f) = 0 := by
  induction l with
  | nil => exact ⟨rfl, rfl⟩
  | cons x l ih =>
    rw [List.map_cons, PyData.canLayAll0, PyData.depthAll, h, hd, ih.1, ih.2]
    exact ⟨rfl, rfl⟩
theorem sh_bools {l : List Bool} : SeqAt.shaped (.tuple (l.map .bool)) = true := by
  obtain ⟨h1, h2⟩ := flat_map (f := PyData.bool) (fun _ => rfl) (fun _ => rfl) l
  exact sh_tup h1 (by omega)
theorem sh_ints {l : List Int} : SeqAt.shaped (.tuple (l.map .int)) = true := by
  obtain ⟨h1, h2⟩ := flat_map (f := PyData.int) (fun _ => rfl) (fun _ => rfl) l
  exact sh_tup h1 (by omega)
theorem eqvAll_map {α : Type} [DecidableEq α] {f : α → PyData} (h : ∀ a b, PyData.eqv (f a) (f b) = decide (a = b)) : ∀ l m : List α, PyData.eqvAll (l.map f) (m.map f) = decide (l = m)
  | [], [] => rfl
  | [], _ :: _ => by simp [PyData.eqvAll]
  | _ :: _, [] => by simp [PyData.eqvAll]
  | x :: xs, y :: ys => by
    rw [List.map_cons, List.map_cons, PyData.eqvAll, h x y, eqvAll_map h xs ys, ← Bool.decide_and]
    exact decide_eq_decide.mpr (by rw [List.cons.injEq])
theorem eqv_bools {l m : List Bool} : PyData.eqv (.tuple (l.map .bool)) (.tuple (m.map .bool)) = decide (l = m) := by
  rw [PyData.eqv]
  exact eqvAll_map (fun a b => by rw [eqv_bb, Bool.beq_eq_decide_eq]) l m
theorem eqv_ints {l m : List Int} : PyData.eqv (.tuple (l.map .int)) (.tuple (m.map .int)) = decide (l = m) := by
  rw [PyData.eqv]
  exact eqvAll_map (fun a b => eqv_ii) l m
theorem eq_bools {l m : List Bool} : oEq (.dat (.tuple (l.map .bool))) (.dat (.tuple (m.map .bool))) P = P (.dat (.bool (decide (l = m)))) := by
  unfold oEq
  simp [RV.dt?, sh_bools, eqv_bools]
theorem ne_bools {l m : List Bool} : oNe (.dat (.tuple (l.map .bool))) (.dat (.tuple (m.map .bool))) P = P (.dat (.bool (!decide (l = m)))) := by
  unfold oNe
  simp [RV.dt?, sh_bools, eqv_bools]
theorem rv_dat {d : PyData} : G.rv (.dat d) = .dat d := rfl
theorem rv_vw {ds : List PyData} : G.rv (.vw ds) = .vw ds := rfl
theorem rv_own {ds : List PyData} : G.rv (.own ds) = .al ds := rfl
theorem rv_obj {p : V → Prop} : G.rv (.obj p) = .obj p := rfl
theorem slot_dat {d : PyData} : RV.slot (.dat d) = some (.dat d) := rfl
theorem arg_dat {d : PyData} : RV.arg (.dat d) = .dat d := rfl
theorem argG_dat {d : PyData} : argG (.dat d) = some (.dat d) := rfl
theorem ret_dat {d : PyData} : RV.ret (.dat d) = true := rfl
theorem gh_dat {d : PyData} : RV.gh (.dat d) = true := rfl
theorem lst_dat {d : PyData} : RV.lst? (.dat d) = none := rfl
theorem dt_dat {d : PyData} : RV.dt? (.dat d) = some d := rfl
theorem slot_new {ds : List PyData} : RV.slot (.new ds) = some (.own ds) := rfl
theorem arg_new {ds : List PyData} : RV.arg (.new ds) = .vw ds := rfl
theorem argG_new {ds : List PyData} : argG (.new ds) = none := rfl
theorem ret_new {ds : List PyData} : RV.ret (.new ds) = true := rfl
theorem gh_new {ds : List PyData} : RV.gh (.new ds) = true := rfl
theorem lst_new {ds : List PyData} : RV.lst? (.new ds) = some ds := rfl
theorem dt_new {ds : List PyData} : RV.dt? (.new ds) = some (.list ds) := rfl
theorem truth_new {ds : List PyData} : truth (.new ds) = some (!ds.isEmpty) := rfl
theorem seqOf_new {ds : List PyData} : seqOf (.new ds) = some ds := rfl
theorem slot_vw {ds : List PyData} : RV.slot (.vw ds) = some (.vw ds) := rfl
theorem arg_vw {ds : List PyData} : RV.arg (.vw ds) = .vw ds := rfl
theorem argG_vw {ds : List PyData} : argG (.vw ds) = some (.vw ds) := rfl
theorem ret_vw {ds : List PyData} : RV.ret (.vw ds) = false := rfl
theorem gh_vw {ds : List PyData} : RV.gh (.vw ds) = true := rfl
theorem lst_vw {ds : List PyData} : RV.lst? (.vw ds) = some ds := rfl
theorem dt_vw {ds : List PyData} : RV.dt? (.vw ds) = some (.list ds) := rfl
theorem truth_vw {ds : List PyData} : truth (.vw ds) = some (!ds.isEmpty) := rfl
theorem seqOf_vw {ds : List PyData} : seqOf (.vw ds) = some ds := rfl
theorem slot_al {ds : List PyData} : RV.slot (.al ds) = none := rfl
theorem arg_al {ds : List PyData} : RV.arg (.al ds) = .vw ds := rfl
theorem argG_al {ds : List PyData} : argG (.al ds) = none := rfl
theorem ret_al {ds : List PyData} : RV.ret (.al ds) = false := rfl
theorem gh_al {ds : List PyData} : RV.gh (.al ds) = false := rfl
theorem lst_al {ds : List PyData} : RV.lst? (.al ds) = some ds := rfl
theorem dt_al {ds : List PyData} : RV.dt? (.al ds) = some (.list ds) := rfl
theorem truth_al {ds : List PyData} : truth (.al ds) = some (!ds.isEmpty) := rfl
theorem seqOf_al {ds : List PyData} : seqOf (.al ds) = some ds := rfl
theorem slot_obj {p : V → Prop} : RV.slot (.obj p) = some (.obj p) := rfl
theorem arg_obj {p : V → Prop} : RV.arg (.obj p) = .obj p := rfl
theorem argG_obj {p : V → Prop} : argG (.obj p) = some (.obj p) := rfl
theorem ret_obj {p : V → Prop} : RV.ret (.obj p) = false := rfl
theorem gh_obj {p : V → Prop} : RV.gh (.obj p) = true := rfl
theorem lst_obj {p : V → Prop} : RV.lst? (.obj p) = none := rfl
theorem dt_obj {p : V → Prop} : RV.dt? (.obj p) = none := rfl
theorem truth_tup {ds : List PyData} : truth (.dat (.tuple ds)) = some (!ds.isEmpty) := rfl
theorem seqOf_tup {ds : List PyData} : seqOf (.dat (.tuple ds)) = some ds := rfl
theorem truth_bool {b : Bool} : truth (.dat (.bool b)) = some b := rfl
theorem truth_int {b : Int} : truth (.dat (.int b)) = some (b != 0) := rfl
theorem truth_none : truth (.dat .none) = some false := rfl
theorem datas_nil : datas [] = some [] := rfl
theorem datas_cons {d : PyData} {r : List RV} : datas (.dat d :: r) = (datas r).map (d :: ·) := rfl
theorem go_nm {j : Nat} {d : PyData} : Tgt.go (.nm j) d = setsG [j] [d] := rfl
theorem go_tp {js : List Nat} {ds : List PyData} : Tgt.go (.tp js) (.tuple ds) = setsG js ds := rfl
theorem sets_nil : setsG [] [] Γ = some Γ := rfl
theorem sets_cons {j : Nat} {js : List Nat} {d : PyData} {ds : List PyData} : setsG (j :: js) (d :: ds) Γ = if j < Γ.length then setsG js ds (Γ.set j (some (.dat d))) else none := rfl
theorem at_0 {α : Type} {v0 : α} {l : List α} : atI (v0 :: l) 0 = some v0 := atI_nat (j := 0) rfl
theorem at_1 {α : Type} {v0 v1 : α} {l : List α} : atI (v0 :: v1 :: l) 1 = some v1 := atI_nat (j := 1) rfl
theorem at_2 {α : Type} {v0 v1 v2 : α} {l : List α} : atI (v0 :: v1 :: v2 :: l) 2 = some v2 := atI_nat (j := 2) rfl
theorem at_3 {α : Type} {v0 v1 v2 v3 : α} {l : List α} : atI (v0 :: v1 :: v2 :: v3 :: l) 3 = some v3 := atI_nat (j := 3) rfl
theorem at_4 {α : Type} {v0 v1 v2 v3 v4 : α} {l : List α} : atI (v0 :: v1 :: v2 :: v3 :: v4 :: l) 4 = some v4 := atI_nat (j := 4) rfl
theorem at_5 {α : Type} {v0 v1 v2 v3 v4 v5 : α} {l : List α} : atI (v0 :: v1 :: v2 :: v3 :: v4 :: v5 :: l) 5 = some v5 := atI_nat (j := 5) rfl
theorem at_6 {α : Type} {v0 v1 v2 v3 v4 v5 v6 : α} {l : List α} : atI (v0 :: v1 :: v2 :: v3 :: v4 :: v5 :: v6 :: l) 6 = some v6 := atI_nat (j := 6) rfl
theorem at_last {α : Type} {l : List α} {v : α} : atI (l ++ [v]) (-1) = some v := atI_last l v
theorem dpair {d e : PyData} {q : PyData → Prop} : (∃ x, some e = some x ∧ q x) = q e := by simp
theorem sz_0 : (0 ≤ sizeLine) = True := by rw [sizeLine_eq]; exact eq_true (by decide)
theorem sz_1 : (1 ≤ sizeLine) = True := by rw [sizeLine_eq]; exact eq_true (by decide)
theorem sz_2 : (2 ≤ sizeLine) = True := by rw [sizeLine_eq]; exact eq_true (by decide)
theorem sz_3 : (3 ≤ sizeLine) = True := by rw [sizeLine_eq]; exact eq_true (by decide)
theorem sz_4 : (4 ≤ sizeLine) = True := by rw [sizeLine_eq]; exact eq_true (by decide)
theorem sz_5 : (5 ≤ sizeLine) = True := by rw [sizeLine_eq]; exact eq_true (by decide)
theorem sz_6 : (6 ≤ sizeLine) = True := by rw [sizeLine_eq]; exact eq_true (by decide)
theorem sz_7 : (7 ≤ sizeLine) = True := by rw [sizeLine_eq]; exact eq_true (by decide)
theorem sz_8 : (8 ≤ sizeLine) = True := by rw [sizeLine_eq]; exact eq_true (by decide)
theorem ite_and2 {a b : Bool} {A B : Prop} : (if a = true then (if b = true then A else B) else B) = (if (a && b) = true then A else B) := by
  cases a <;> cases b <;> rfl
theorem fall_app2 {α : Type} {f : α → PyData} {p : α → Prop} {q : PyData → Prop} : (∀ b a, p a → f a = b → q b) ↔ ∀ a, p a → q (f a) := ⟨fun h a pa => h _ a pa rfl, fun h b a pa e => e ▸ h a pa⟩
theorem size_ok {n : Nat} (h : n < 100000) : n < sizeLine := Nat.lt_of_lt_of_le h (by rw [sizeLine_eq]; decide)
theorem size_le {n : Nat} (h : n ≤ 100000) : n ≤ sizeLine := Nat.le_trans h (by rw [sizeLine_eq]; decide)
theorem bo_len : bootBuiltins "len" = some (.builtin "len") := by decide +kernel
theorem bo_abs : bootBuiltins "abs" = some (.builtin "abs") := by decide +kernel
theorem bo_max : bootBuiltins "max" = some (.builtin "max") := by decide +kernel
theorem bo_min : bootBuiltins "min" = some (.builtin "min") := by decide +kernel
theorem bo_sum : bootBuiltins "sum" = some (.builtin "sum") := by decide +kernel
theorem bo_isinstance : bootBuiltins "isinstance" = some (.builtin "isinstance") := by decide +kernel
theorem bo_int : bootBuiltins "int" = some (.type "int") := by decide +kernel
theorem bo_list : bootBuiltins "list" = some (.type "list") := by decide +kernel
theorem bo_tuple : bootBuiltins "tuple" = some (.type "tuple") := by decide +kernel
theorem bo_bool : bootBuiltins "bool" = some (.type "bool") := by decide +kernel
theorem bo_str : bootBuiltins "str" = some (.type "str") := by decide +kernel
end
end Ab

namespace Ab
open PySem PySem.Spec PyProof.Rows L2
section
variable {X : Cx} {c : Ctx} {a b d tg : Expr} {A B C : XE} {p pos : Pos}
/-! ### ranges downwards -/
def downD (i j : Int) : List PyData := (List.range (i - j).toNat).map fun k => .int (i - (k : Nat))
theorem downD_get {a b : Int} {k : Nat} {d : PyData} : (downD a b)[k]? = some d ↔ d = .int (a - (k : Nat)) ∧ k < (a - b).toNat := by
  unfold downD
  rw [List.getElem?_map]
  by_cases h : k < (a - b).toNat
  · rw [List.getElem?_range h]
    simp [h, eq_comm]
  · rw [List.getElem?_eq_none (by simpa using h)]
    simp [h]
theorem downD_len {a b : Int} : (downD a b).length = (a - b).toNat := by simp [downD]
theorem yl_down (i j : Int) : Yl c (Itc i (-1) (i - j).toNat) (fun _ => True) (downD i j) where
  go := fun k H _ hk => by
    rw [downD_len] at hk
    exact hk
  stop := fun k H _ hk => by
    rw [downD_len] at hk
    exact hk
  yld := fun k H x H' _ hk ⟨e1, e2⟩ => by
    subst e1 e2
    rw [downD_len] at hk
    exact ⟨Fx.refl H', True.intro, .int (i - (k : Nat)), downD_get.mpr ⟨rfl, hk⟩, by rw [show i + ((k : Nat) : Int) * -1 = i - (k : Nat) by omega]; exact .int _, rfl⟩
def aIR3 (A B C : XE) : XI := fun Γ P => A Γ fun x => B Γ fun y => C Γ fun z => ∃ i j, x = .dat (.int i) ∧ y = .dat (.int j) ∧ z = .dat (.int (-1)) ∧ -(2 ^ 62) ≤ i ∧ i < 2 ^ 62 ∧ -(2 ^ 62) ≤ j ∧ j < 2 ^ 62 ∧ P (downD i j) true
theorem ai_r3 (hg : Gl X "range") (hm : X.mg "range" = none) (ha : PEa X c a A) (hb : PEa X c b B) (hd : PEa X c d C) (hs : starEach [a, b, d] X.env = [(false, eval a X.env), (false, eval b X.env), (false, eval d X.env)] := by rfl) (hs2 : starEach [b, d] X.env = [(false, eval b X.env), (false, eval d X.env)] := by rfl) (hs3 : starEach [d] X.env = [(false, eval d X.env)] := by rfl) (h0 : starEach ([] : List Expr) X.env = [] := by rfl) :
    PIa X c tg (.Call (.Name "range" p) [a, b, d] [] pos) (aIR3 A B C) :=
  ⟨pi_imp (pi_range3 hg hm (pa_cons ha.pe (pa_cons hb.pe (pa_cons hd.pe pa_nil (by rw [hs3, h0])) (by rw [hs2, hs3])) (by rw [hs, hs2])) (by rw [hs, hs2]) (by rw [hs2]; rfl)) fun σ H R ⟨Γ, P, at_, p, k⟩ => by
    refine ⟨Γ, _, at_, p, fun v H1 r f1 at1 r1 q1 => ⟨Γ, _, at1, q1, fun u H2 r' f2 at2 r2 q2 => ⟨Γ, _, at2, q2, fun w H3 r'' f3 at3 r3 ⟨i, j, e, e', e'', h1, h2, h3, h4, q⟩ => ?_⟩⟩⟩
    subst e e' e''
    cases r1.ro.int
    cases r2.ro.int
    cases r3.ro.int
    exact ⟨i, j, -1, _, rfl, RgC.neg h1 h2 h3 h4, k _ H3 (downD i j) true (fun _ => True) ((f1.trans f2).trans f3) at3 True.intro (fun _ _ _ _ _ => True.intro) (fun _ => ghost_nil) (yl_down i j) q⟩⟩
/-! ### an int or None -/
def optD : Option Int → PyData
  | none => .none
  | some i => .int i
theorem optD_none : optD none = .none := rfl
theorem optD_some {i : Int} : optD (some i) = .int i := rfl
theorem sh_opt {o : Option Int} : SeqAt.shaped (optD o) = true := by cases o <;> rfl
theorem eqv_opt {o q : Option Int} : PyData.eqv (optD o) (optD q) = decide (o = q) := by
  cases o with
  | none =>
    cases q with
    | none => rfl
    | some j => rfl
  | some i =>
    cases q with
    | none => rfl
    | some j =>
      show PyData.eqv (.int i) (.int j) = _
      rw [eqv_ii]
      exact decide_eq_decide.mpr (by rw [Option.some.injEq])
theorem eq_opt {o q : Option Int} {P : RV → Prop} : oEq (.dat (optD o)) (.dat (optD q)) P = P (.dat (.bool (decide (o = q)))) := by
  unfold oEq
  simp [RV.dt?, sh_opt, eqv_opt]
theorem ne_opt {o q : Option Int} {P : RV → Prop} : oNe (.dat (optD o)) (.dat (optD q)) P = P (.dat (.bool (!decide (o = q)))) := by
  unfold oNe
  simp [RV.dt?, sh_opt, eqv_opt]
theorem none_opt {o : Option Int} : isNone (optD o) = o.isNone := by cases o <;> rfl
/-! ### try, where nothing is raised -/
theorem st_thru {body : List Stmt} {h₀ : ExceptHandler} {hs : List ExceptHandler} {S : XS} (hn : ∀ e s, ¬ X.xe e s) (hb : PSts X c body S) : PSt X c (.Try body (h₀ :: hs) [] [] pos) S :=
  ⟨ps_imp (ps_try_never hn hb.ps pss_nil) fun E σ H h => h⟩
/-! ### not in, of a list -/
def oNin : XO := fun x y P => ∃ d ds, x.dt? = some d ∧ y.lst? = some ds ∧ SeqAt.shaped d = true ∧ SeqAt.shaped (.list ds) = true ∧ P (.dat (.bool (!ds.any fun z => PyData.eqv z d)))
def oIn : XO := fun x y P => ∃ d ds, x.dt? = some d ∧ y.lst? = some ds ∧ SeqAt.shaped d = true ∧ SeqAt.shaped (.list ds) = true ∧ P (.dat (.bool (ds.any fun z => PyData.eqv z d)))
theorem units65 {k : Nat} {A : Around} (r : Room k A) : A.units + 65 < cLine := by have := r.un; omega
theorem oa_nin (hu : X.A.units + 65 < cLine) (hK : X.K = c.K := by rfl) : OpA X c (compareOp .NotIn) oNin := ⟨opR_imp (op_notInD hu) fun x y H Q ⟨rx, ry, P, _, r1, r2, ⟨d, ds, e1, e2, s1, s2, p⟩, k⟩ => by
  rw [hK]
  exact ⟨d, ds, r1.dt e1, (RO.dp r2).2 ds e2, s1, s2, k _ H _ (Fx.refl H) (rr_bl _) p⟩⟩
theorem oa_in (hu : X.A.units + 65 < cLine) (hK : X.K = c.K := by rfl) : OpA X c (compareOp .In) oIn := ⟨opR_imp (op_inD hu) fun x y H Q ⟨rx, ry, P, _, r1, r2, ⟨d, ds, e1, e2, s1, s2, p⟩, k⟩ => by
  rw [hK]
  exact ⟨d, ds, r1.dt e1, (RO.dp r2).2 ds e2, s1, s2, k _ H _ (Fx.refl H) (rr_bl _) p⟩⟩
end
end Ab

namespace Ab
open PySem PySem.Spec PyProof.Rows L2
/-! ### a callee may take all that stands for its base -/
def hidF (H : Hp) (l : List Env) : Hp := fun b => if b ∈ frs l then some (.tbl #[]) else H b
def newBase (h : Heap) (H : Hp) (l : List Env) : Heap := hidT h (hidF H l)
theorem newBase_get {h : Heap} {H : Hp} {l : List Env} {b : Addr} {o : Obj} (e : h.get? b = some o) (n : H b = none) (f : b ∉ frs l) : (newBase h H l).get? b = some o :=
  hidT_get e (by unfold hidF; rw [if_neg f]; exact n)
theorem of_newBase {h : Heap} {H : Hp} {l : List Env} {b : Addr} {o : Obj} (e : (newBase h H l).get? b = some o) : h.get? b = some o ∧ H b = none ∧ b ∉ frs l := by
  obtain ⟨e1, e2⟩ := of_hidT e
  unfold hidF at e2
  by_cases hb : b ∈ frs l
  · rw [if_pos hb] at e2; cases e2
  · rw [if_neg hb] at e2; exact ⟨e1, e2, hb⟩
theorem frs_base {h base b2 : Heap} : ∀ {l l' : List Env}, h.FunFrames base l → (∀ b ∈ frs l, b2.get? b = none) → h.FunFrames b2 l
  | [], _, _, _ => trivial
  | env :: l, l', ⟨hk, ⟨L, o, hf, hn, ho, hd⟩, hr⟩, k => by
    have hL : L ∈ frs (env :: l) := by unfold frs; rw [List.filterMap_cons, hf]; exact List.mem_cons_self
    refine ⟨hk, ⟨L, o, hf, k L hL, ho, hd⟩, frs_base (l' := l) hr fun b hb => k b ?_⟩
    unfold frs
    rw [List.filterMap_cons, hf]
    exact List.mem_cons_of_mem _ hb
theorem rebase {P : Program} {w : World} {K : PySem.W.Frag} {mg : Str → Option Value} {base : Heap} {A : Around} {outer : List Env} {s : Shared} {H : Hp} (e : Env0 P w K mg base A outer s H) : Env0 P w K mg (newBase s.heap H outer) A outer s H := by
  have up : ∀ b o, base.get? b = some o → (newBase s.heap H outer).get? b = some o := fun b o q => newBase_get (e.bs b o q).1 (e.bs b o q).2 fun z => by
    have := (e.funs.mem z).1
    rw [q] at this
    cases this
  refine ⟨e.frames, ⟨e.mod.kin.keeps up, e.mod.glob.keeps up, ?_, e.mod.nolimit.keeps up⟩, fun b o q => ⟨(of_newBase q).1, (of_newBase q).2.1⟩, Nat.le_of_eq (hidT_size _ _), frs_base (l' := outer) e.funs fun b hb => ?_, e.frf, e.hok, e.bare⟩
  · obtain ⟨mb, h1, h2⟩ := e.mod.blt
    exact ⟨mb, h1.keeps up, h2⟩
  · cases q : (newBase s.heap H outer).get? b with
    | none => rfl
    | some o => exact absurd hb (of_newBase q).2.2
/-! ### a lambda's function, by its body -/
abbrev lamF (q : Str) (params : Arguments) (scope : Scope) (cl : List (Str × Addr)) (c' : Addr) : NdefX.NF := ⟨"<lambda>", q, params, [], scope, cl, c'⟩
theorem lam_fn {P : Program} {w : World} {K : PySem.W.Frag} {mg : Str → Option Value} {base : Heap} {f c' : Addr} {q : Str} {params : Arguments} {body : Expr} {scope : Scope} {cl : List (Str × Addr)} {pm ctv : Value} {N ps fr : List Str} {ws : List (Option V)} {k : Nat} {sp : Sp}
    (S : NdefX.NScope N ps fr scope) (of : base.get? f = some (PySem.W.kla_obj "<lambda>" q params body scope cl pm c' ctv)) (oc : base.CodeRec (.ref c') q)
    (C1 : ∀ y c, cl.lookup y = some c → ∃ v, base.IsCell c v) (C2 : ∀ x y c, cl.lookup x = some c → cl.lookup y = some c → x = y) (C3 : ws.length = fr.length)
    (C4 : ∀ (i : Nat) (y : Str), fr[i]? = some y → ∃ c, cl.lookup y = some c ∧ ∀ v, ws[i]? = some (some v) → ∃ u, L2.RelV v u ∧ base.IsCell c (some u)) (lenS : ∀ vs H Q E, sp vs H Q E → vs.length = ps.length)
    (hbody : ∀ (A : Around) (outer : List Env) (s : Shared) (H : Hp) (vs : List V) (Q : VK) (E : XK), Room k (A.deeper (NdefX.envF (lamF q params scope cl c') f s.heap.objs.size)) → sp vs H Q E → ∃ t, PE (NdefX.ncx CX0 P w K mg base N (lamF q params scope cl c') f A outer s H E).nox body t ∧ t (NdefX.startF N vs ws) H Q) :
    FnOk P w K mg base CX0 (k + 1) f (PySem.W.kla_fn "<lambda>" q params body scope cl pm (.ref c') ctv) ps sp := by
  refine ⟨lenS, fun A outer s H args us vs Q E hr e0 hb r hsp => ?_⟩
  have hl := lenS _ _ _ _ hsp
  have lim : s.heap.NoLimit := e0.mod.nolimit.keeps fun b o e => (e0.bs b o e).1
  have cellB : ∀ {c v}, base.IsCell c v → H c = none ∧ s.heap.IsCell c v := fun {c v} ⟨o, ho, hd⟩ => ⟨(e0.bs c o ho).2, o, (e0.bs c o ho).1, hd⟩
  have C : NdefX.CellsAt cl fr ws s.heap H := ⟨C3, fun y c e => by
    obtain ⟨v, z⟩ := C1 y c e
    exact ⟨(cellB z).1, v, (cellB z).2⟩, C2, fun i y e => by
    obtain ⟨c, h1, h2⟩ := C4 i y e
    refine ⟨c, h1, fun v hv => ?_⟩
    obtain ⟨u, g1, g2⟩ := h2 v hv
    exact ⟨u, g1, (cellB g2).2⟩⟩
  have rec' : s.heap.CodeRec (.ref c') q := by
    obtain ⟨c, ob, vs, t, h1, h2, h3⟩ := oc
    exact ⟨c, ob, vs, t, h1, (e0.bs _ _ h2).1, h3⟩
  refine PySem.W.kla_callFunE hr.depth (e0.bs _ _ of).1 rfl S.co S.gen rfl rec' (hb _ _ _ _ ?_)
  refine wpAny_newFunctionEnv S.nocell (fun ⟨n, _⟩ hy => S.par n (List.of_mem_zip hy).1) (fun h₁ hns hsb => ⟨lim.fresh _ hsb, ?_⟩) S.kind
  show codeAny _ _ (.expr body (NdefX.envF (lamF q params scope cl c') f s.heap.objs.size)) _ _
  have kp : ∀ b o, s.heap.get? b = some o → h₁.get? b = some o := fun b o e => hsb.extBut b o (Nat.ne_of_lt (Heap.lt_size e)) (Heap.get?_push_of_some _ e)
  obtain ⟨t, ht, hq⟩ := hbody A outer s H vs Q E (hr.deeper _) hsp
  have I : Inv (NdefX.ncx CX0 P w K mg base N (lamF q params scope cl c') f A outer s H E) [] (NdefX.startF N vs ws) H { s with heap := h₁, toks := s.toks + (ps.zip us).length } := NdefX.inv_startN S hr.hd e0 hl r C hns kp
  refine PySem.W.kla_codeExpr (wpAny_mono ((PE.nox ht).run [] _ _ H Q I hq) (fun v s' hq => ?_) fun e s' hq => hq)
  obtain ⟨w', H', J', rv, q⟩ := hq
  exact ⟨w', H', J'.os, J'.bare, J'.base, J'.hok, rv, q⟩
/-! ### the lambda is made -/
theorem lam_new {X : Cx} {pins : List (Addr × Obj)} {σ : L2.St} {H : Hp} {s : Shared} {c P : Addr} {params : Arguments} {body : Expr} {scope : Scope} {pos : Pos} {E : Value → Shared → Prop} {Q : Value → Shared → Prop} (I : Inv X pins σ H s) (TB : LamX.TabB X.base X.mg c P) (hc : X.env.code = .ref c)
    (hT : LamX.TabS H P (X.env.qual ++ "<lambda>")) (hdef : defaultsOf params X.env = ([], [])) (hfree : ∀ y ∈ scope.names, y.2 = .free → ∃ c, X.env.cells.lookup y.1 = some c)
    (h : ∀ (f c' : Addr) (pm ctv : Value) (H1 : Hp) (s' : Shared), Inv X pins σ H1 s' → (∀ b o, b ≠ P → H b = some o → H1 b = some o) → LamX.TabS H1 P (X.env.qual ++ "<lambda>") →
      s'.heap.get? f = some (PySem.W.kla_obj "<lambda>" (X.env.qual ++ "<lambda>") params body scope (cloFrom X.env.cells scope.names []) pm c' ctv) → H1 f = none → f ≠ X.env.locals → f ∉ X.fs → H1 c' = some (LamX.CodeO c' (X.env.qual ++ "<lambda>")) → Q (.ref f) s') :
    wpAny (model X.prog X.w) X.A (eval (.Lambda params body scope pos) X.env) Q E s := by
  obtain ⟨ts, hP, ok3, codes⟩ := hT
  have stand := I.hok P _ hP
  have bm := TB.bm.keeps I.bk
  have late : ∀ f, s.heap.objs.size ≤ f → f ≠ X.env.locals ∧ f ∉ X.fs := fun f hf => ⟨fun z => by
    have := I.lt
    rw [← z] at this
    exact absurd (Nat.lt_of_lt_of_le this hf) (Nat.lt_irrefl _), I.nofs hf⟩
  refine PySem.W.kla_eval hdef ?_
  cases found : codeAmong pos ts.toList with
  | some cv =>
    obtain ⟨c', rfl, known⟩ := codes pos cv found
    refine PySem.W.kla_makeFunctionHit (closure_ok hfree) I.ok.glob (I.mod.glob.keeps I.bk) hc (TB.code.keeps I.bk) stand ok3 found bm fun ctv h' tk up big => ?_
    have J : Inv X pins σ H { s with heap := h'.push (PySem.W.kla_obj "<lambda>" (X.env.qual ++ "<lambda>") params body scope (cloFrom X.env.cells scope.names []) ((X.mg "__name__").getD .none) c' ctv), toks := tk } := I.kept fun b o e => Heap.get?_push_of_some _ (up b o e)
    exact h _ c' _ ctv H _ J (fun b o _ e => e) ⟨ts, hP, ok3, codes⟩ (Heap.get?_push_size _ rfl) (I.hok.fresh big) (late _ big).1 (late _ big).2 known
  | none =>
    refine PySem.W.kla_makeFunction (closure_ok hfree) I.ok.glob (I.mod.glob.keeps I.bk) hc (TB.code.keeps I.bk) stand ok3 found TB.gP bm fun c' ctv h' tk up c0 c1 cr grown => ?_
    obtain ⟨cc, oc, us, tq, ecc, g1, g2, g3⟩ := cr
    cases ecc
    have big : s.heap.objs.size ≤ h'.objs.size := Nat.le_trans c0 (Nat.le_of_lt c1)
    have un : H c' = none := I.hok.fresh c0
    have J := LamX.inv_table (t' := tk) (more := #[rawInt pos.line, rawInt pos.col, .ref c']) (h' := h'.push (PySem.W.kla_obj "<lambda>" (X.env.qual ++ "<lambda>") params body scope (cloFrom X.env.cells scope.names []) ((X.mg "__name__").getD .none) c' ctv)) I hP (fun b o nb e => Heap.get?_push_of_some _ (up b o nb e)) (Heap.get?_push_of_some _ grown) c0 ⟨oc, us, tq, Heap.get?_push_of_some _ g1, g2, g3⟩
    have rest : ∀ b o, b ≠ P → H b = some o → (upd (upd H P (.tbl (ts ++ #[rawInt pos.line, rawInt pos.col, .ref c']))) c' (LamX.CodeO c' (X.env.qual ++ "<lambda>"))) b = some o := fun b o nb e => by
      rw [upd_ne (ne_of_none e un), upd_ne nb]
      exact e
    refine h _ c' _ ctv _ _ J rest ⟨_, by rw [upd_ne (ne_of_none hP un), upd_same], by rw [Array.toList_append]; exact PySem.TriplesOk_snoc _ _ _ _ ok3, fun p' cv hcv => ?_⟩ (Heap.get?_push_size _ rfl) ?_ (late _ big).1 (late _ big).2 upd_same
    · rw [Array.toList_append] at hcv
      rcases LamX.among_app _ ok3 hcv with z | z
      · obtain ⟨c2, e1, e2⟩ := codes p' cv z
        refine ⟨c2, e1, rest c2 _ (fun q => ?_) e2⟩
        rw [q, hP] at e2
        exact LamX.codeO_ne _ (Option.some.inj e2).symm
      · exact ⟨_, z, upd_same⟩
    · rw [upd_ne (Nat.ne_of_gt c1), upd_ne (Nat.ne_of_gt (Nat.lt_of_lt_of_le (Heap.lt_size stand) big))]
      exact I.hok.fresh big
end Ab

namespace Ab
open PySem PySem.Spec PyProof.Rows L2
/-! ### an address left out of what is tracked, and taken in again -/
def drp (c : Addr) (H : Hp) : Hp := fun b => if b = c then none else H b
theorem drp_ne {c b : Addr} {H : Hp} (h : b ≠ c) : drp c H b = H b := if_neg h
theorem drp_same {c : Addr} {H : Hp} : drp c H c = none := if_pos rfl
theorem drp_none {c b : Addr} {H : Hp} (h : H b = none) : drp c H b = none := by
  unfold drp
  split
  · rfl
  · exact h
theorem drp_some {c b : Addr} {H : Hp} {o : HO} (h : drp c H b = some o) : H b = some o ∧ b ≠ c := by
  unfold drp at h
  by_cases e : b = c
  · rw [if_pos e] at h; cases h
  · rw [if_neg e] at h; exact ⟨h, e⟩
section
variable {P : Program} {w : World} {K : PySem.W.Frag} {mg : Str → Option Value} {base : Heap} {A : Around} {outer : List Env} {s s' : Shared} {H : Hp} {c : Addr} {φ : Heap → Prop}
theorem hok_drp {h : Heap} (ok : HOk P w H h) (hc : H c = some (.ext φ)) : HOk P w (drp c H) h := fun a o e => by
  obtain ⟨e1, _⟩ := drp_some e
  refine (ok a o e1).stay (fun b u _ q => q) (fun b q => ?_) fun b xs q => ?_
  · rw [drp_ne (fun z => by rw [z, hc] at q; cases q)]; exact q
  · rw [drp_ne (fun z => by rw [z, hc] at q; cases q)]; exact q
theorem env0_drp (e : Env0 P w K mg base A outer s H) (hc : H c = some (.ext φ)) : Env0 P w K mg base A outer s (drp c H) :=
  ⟨e.frames, e.mod, fun b o q => ⟨(e.bs b o q).1, drp_none (e.bs b o q).2⟩, e.bsz, e.funs, fun b hb => drp_none (e.frf b hb), hok_drp e.hok hc, e.bare⟩
theorem ce_put {Q : VK} {u : Value} (hok : HOk P w H s.heap) (hc : H c = some (.ext φ)) (hf : c ∉ frs outer) (h : CE outer P w (drp c H) s Q u s') : CE outer P w H s (fun v H3 => ∃ H', H3 = upd H' c (.ext φ) ∧ H' c = none ∧ Q v H') u s' := by
  obtain ⟨v, H', os, bare, un, ok', r, q⟩ := h
  obtain ⟨p1, ⟨ob, p2⟩, p3⟩ := hok c _ hc
  have kc : s'.heap.get? c = some ob := un.keep c ob p2 drp_same hf (by simp)
  have nc : H' c = none := un.free c ob p2 drp_same (by simp)
  have at_ : ∀ {b o}, H' b = some o → upd H' c (.ext φ) b = some o := fun {b o} e => by rw [upd_ne (ne_of_none e nc)]; exact e
  refine ⟨v, _, os, bare, ⟨fun b o e n => un.keep b o e (drp_none n), fun b o e n => un.slot b o e (drp_none n), fun b o e n hx => ?_, un.there, fun b xs e => ?_, fun b o u e => ?_, fun b ps e => ?_⟩, fun a o e => ?_, r, H', rfl, nc, q⟩
  · rw [upd_ne (fun z => by rw [z, hc] at n; cases n)]
    exact un.free b o e (drp_none n) hx
  · exact at_ (un.tups b xs (by rw [drp_ne (fun z => by rw [z, hc] at e; cases e)]; exact e))
  · exact at_ (un.frzs b o u (by rw [drp_ne (fun z => by rw [z, hc] at e; cases e)]; exact e))
  · obtain ⟨more, g⟩ := un.tbls b ps (by rw [drp_ne (fun z => by rw [z, hc] at e; cases e)]; exact e)
    exact ⟨more, at_ g⟩
  · by_cases hb : a = c
    · subst hb
      rw [upd_same] at e
      cases e
      refine ⟨p3 _ _ p1 fun o z => ?_, ⟨ob, kc⟩, p3⟩
      rw [p2] at z
      cases z
      exact kc
    · rw [upd_ne hb] at e
      exact (ok' a o e).stay (fun b u _ q => q) (fun b q => at_ q) fun b xs q => at_ q
end
theorem tex_drp {H : Hp} {c : Addr} {φ : Heap → Prop} (hc : H c = some (.ext φ)) : TEx H (drp c H) := fun a xs r => by
  rcases r with r | ⟨o, r⟩
  · exact .inl (by rw [drp_ne (fun z => by rw [z, hc] at r; cases r)]; exact r)
  · exact .inr ⟨o, by rw [drp_ne (fun z => by rw [z, hc] at r; cases r)]; exact r⟩
theorem argR_drp {K : PySem.W.Frag} {S : List Addr} {H : Hp} {c : Addr} {φ : Heap → Prop} {v : V} {r : RV} (hc : H c = some (.ext φ)) (h : ArgR K S H v r) (hr : r.arg = r) : ArgR K S (drp c H) v r := by
  have sq : ∀ {a xs}, SqL K H a xs → SqL K (drp c H) a xs := fun {a xs} q => by
    rcases q with (q | ⟨o, q⟩) | q
    · exact .inl (.inl (by rw [drp_ne (fun z => by rw [z, hc] at q; cases q)]; exact q))
    · exact .inl (.inr ⟨o, by rw [drp_ne (fun z => by rw [z, hc] at q; cases q)]; exact q⟩)
    · exact .inr q
  cases r with
  | dat d => exact ⟨dp_mono (tex_drp hc) d v h.2 h.1, h.2⟩
  | vw ds =>
    obtain ⟨x, vs, rfl, h2, h0, h3, h4, h5⟩ := h
    exact ⟨x, vs, rfl, h2, sq h0, sq h3, dpAll_mono (tex_drp hc) _ _ h5 h4, h5⟩
  | obj p => exact h
  | new ds => cases hr
  | al ds => cases hr
theorem arg_arg {r : RV} : r.arg.arg = r.arg := by cases r <;> rfl
/-! ### a function that was handed in: its promise -/
theorem TEx.trans {H1 H2 H3 : Hp} (a : TEx H1 H2) (b : TEx H2 H3) : TEx H1 H3 := fun x xs h => b x xs (a x xs h)
theorem TEx.refl (H : Hp) : TEx H H := fun _ _ h => h
def TestOf (P : Program) (w : World) (K : PySem.W.Frag) (mg : Str → Option Value) (base : Heap) (k : Nat) (ps : List Str) (H0 : Hp) (T : Asp) : V → Prop := fun v => ∃ f fd Hr, v = .ref f ∧ TEx Hr H0 ∧ FnOk P w K mg base CX0 k f fd ps (fun vs H Q E => TEx Hr H ∧ pSp K T vs H Q E) ∧ Binds K fd ps [] ∧ PySem.W.FnAt f base
theorem TestOf.mono {P : Program} {w : World} {K : PySem.W.Frag} {mg : Str → Option Value} {base : Heap} {k : Nat} {ps : List Str} {H0 H1 : Hp} {T : Asp} {v : V} (h : TestOf P w K mg base k ps H0 T v) (e : TEx H0 H1) : TestOf P w K mg base k ps H1 T v := by
  obtain ⟨f, fd, Hr, h1, h2, h3⟩ := h
  exact ⟨f, fd, Hr, h1, h2.trans e, h3⟩
/-- a pure def's promise, told of the entry heap -/
def hSp (K : PySem.W.Frag) (asp : Hp → Asp) : Sp := fun vs H Q _ => ∃ rs P, Paired (ArgR K [] H) vs rs ∧ asp H rs P ∧ ∀ v H' r, Fx [] H H' → RR (cx0 K [] (fun _ => True) H) H H' v r → r.ret = true → P r → Q v H'
section
variable {X : Cx} {c : Ctx} {e : Expr} {es : List Expr} {L : XA} {p pos : Pos}
theorem back_of {σ : L2.St} {Γ : Gam} {H H1 : Hp} {P : RV → Prop} {Q : VK} (f1 : Fx c.S H H1) (at1 : At c σ H1 Γ) (k : ∀ v H' r, Fx c.S H H' → At c σ H' Γ → RR c H H' v r → P r → Q v H') : ∀ v H2 r, Fx [] H1 H2 → RR (cx0 c.K [] (fun _ => True) H1) H1 H2 v r → r.ret = true → P r → Q v H2 := fun v H2 r f2 rr hr pr => by
  refine k v H2 r (f1.trans f2.nil) (at1.ext f2) ?_ pr
  cases r with
  | dat d => exact rr
  | new ds =>
    obtain ⟨x, vs, rfl, h1, h2, h3, h4, h5⟩ := rr
    have n := (at1.fresh h1).1
    exact ⟨x, vs, rfl, f1.free n h1, n, h3, h4, h5⟩
  | vw ds => cases hr
  | al ds => cases hr
  | obj q => cases hr
def aCallT (B : Asp → V → Prop) (i : Nat) (L : XA) : XE := fun Γ P => ∃ p T, Γ[i]? = some (some (.obj p)) ∧ (∀ v, p v → B T v) ∧ L Γ fun rs => T (rs.map RV.arg) P
theorem ae_callT (P : Program) (w : World) (K : PySem.W.Frag) (mg : Str → Option Value) (base : Heap) (i : Nat) {k j : Nat} {ps : List Str} {x : Str} (hr : Room j X.A) (hk : k ≤ j) (ha : PAa X c (e :: es) L) (hN : X.N[i]? = some x := by rfl) (hv : Vis X.env.scope x := by first | exact .inl rfl | exact .inr (.inl rfl) | exact .inr (.inr rfl)) (hdb : (x == ("__debug__" : Str)) = false := by decide) (hcd : (x == ("__classdict__" : Str)) = false := by decide)
    (he : starEach (e :: es) X.env = (false, eval e X.env) :: starEach es X.env := by rfl) (hpl : (backTo pos (starEach es X.env)).any (·.1) = false := by rfl) (hK : X.K = c.K := by rfl)
    (x1 : X.prog = P := by rfl) (x2 : X.w = w := by rfl) (x3 : X.K = K := by rfl) (x4 : X.mg = mg := by rfl) (x5 : X.base = base := by rfl) :
    PEa X c (.Call (.Name x p) (e :: es) [] pos) (aCallT (TestOf P w K mg base k ps c.H0) i L) := by
  subst x1 x2 x3 x4 x5
  refine ⟨⟨fun pins s σ H Q I h => ?_⟩⟩
  obtain ⟨Γ, P, at_, ⟨p0, T, hi, hp, hl⟩, kont⟩ := h
  obtain ⟨v, hs, hpv⟩ := at_.slot i _ hi
  obtain ⟨f, fd, Hr, ev, tx, F, hb, fa⟩ := hp v hpv
  subst ev
  refine wpAny_Call_Name_kw (thn ((pe_var (pos := p) hN hv hdb hcd).run pins s σ H (fun v H1 => v = .ref f ∧ H1 = H) I ⟨.ref f, hs, rfl, rfl⟩) fun u s1 ⟨v, H1, I1, r1, q1⟩ => ?_)
  obtain ⟨rfl, rfl⟩ := q1
  cases r1
  have fnat : ∀ {s2 : Shared} {H2 : Hp}, Inv X pins σ H2 s2 → PySem.W.FnAt f s2.heap := fun {s2 H2} I2 => by
    obtain ⟨oc, od, gd, sl, z⟩ := fa
    exact ⟨oc, od, gd, sl, I2.bk _ _ z⟩
  have main : gA c L σ H1 (fun vs H2 => TEx Hr H2 ∧ pSp c.K T vs H2 Q E0) := ⟨Γ, _, at_, hl, fun vs H2 rs f2 at2 r2 q => ⟨tx.trans at2.kp.tup, rs.map RV.arg, P, argRs_of (T := []) (fun _ h => by simp at h) r2, q, back_of f2 at2 kont⟩⟩
  refine PySem.W.callWith_F (first := []) (fnat I1) (thn (ha.pa.run pos pins s1 σ H1 _ I1 main) fun us s2 ⟨vs, H2, I2, r, q⟩ => ⟨fnat I2, ?_⟩) he hpl
  rw [← hK] at q
  exact run_fn (dvs := []) (ds := []) (CX := CX0) F (hr.mono hk) hb .nil pass0 I2 r (by rw [List.append_nil]; exact q)
/-- a call of a def that is handed a function, within a def that was handed it -/
def aCallH (Bc : Asp → V → Prop) (asp : (Asp → V → Prop) → Asp) (L : XA) : XE := fun Γ P => L Γ fun rs => ∀ B : Asp → V → Prop, (∀ T v, Bc T v → B T v) → asp B (rs.map RV.arg) P
theorem ae_callH {CX : CXT} {asp : (Asp → V → Prop) → Asp} {k kt : Nat} {f : Addr} {fd : FuncData} {ps pt : List Str} {x : Str} {E : XK} (F : FnOk X.prog X.w X.K X.mg X.base CX k f fd ps (hSp X.K fun H => asp (TestOf X.prog X.w X.K X.mg X.base kt pt H))) (hr : Room k X.A) (hg : Gl X x) (hm : X.mg x = some (.ref f)) (hk : PySem.W.keepIn X.K (.ref f) = true) (hb : Binds X.K fd ps [])
    (hx : Passes CX X E) (ha : PAa X c (e :: es) L) (hdb : (x == ("__debug__" : Str)) = false := by decide) (he : starEach (e :: es) X.env = (false, eval e X.env) :: starEach es X.env := by rfl) (hpl : (backTo pos (starEach es X.env)).any (·.1) = false := by rfl)
    (hK : X.K = c.K := by rfl) : PEa X c (.Call (.Name x p) (e :: es) [] pos) (aCallH (TestOf X.prog X.w X.K X.mg X.base kt pt c.H0) asp L) :=
  ⟨pe_imp (pe_call F hr hg hm hk hb .nil hx ha.pa hdb he hpl) fun σ H Q ⟨Γ, P, at_, hl, kont⟩ => by
    refine ⟨Γ, _, at_, hl, fun vs H1 rs f1 at1 r1 q => ?_⟩
    show hSp X.K _ (vs ++ []) H1 Q E
    rw [List.append_nil]
    refine ⟨rs.map RV.arg, P, ?_, q _ fun T v h => h.mono at1.kp.tup, ?_⟩
    · rw [hK]
      exact argRs_of (T := []) (fun _ h => by simp at h) r1
    · rw [hK]
      exact back_of f1 at1 kont⟩
end
theorem def_h {P : Program} {w : World} {K : PySem.W.Frag} {mg : Str → Option Value} {base : Heap} {x qual : Str} {st : Stmt} {f : Addr} {fd : FuncData} {N ps : List Str} {k : Nat} {asp : Hp → Asp} (F : Fun K x qual st f fd) (Sc : FnScope N ps (defScope st)) (hlen : ∀ H rs P, asp H rs P → rs.length = ps.length)
    (hbody : ∀ (cdv : Value) (A : Around) (outer : List Env) (s : Shared) (H : Hp) (E : XK), Room k (A.deeper (envOfC qual (defScope st) s.heap.objs.size f cdv)) → ∃ B, PSts (cxOf CX0 P w K mg base N qual (defScope st) f cdv A outer s H E).nox (cx0 K [] (fun _ => True) H) (defBody st) B ∧ ∀ rs P, asp H rs P → B (fin P) (gam0 N rs)) :
    FnOk P w K mg base CX0 (k + 1) f fd ps (hSp K asp) := by
  refine F.ok Sc (fun vs H Q E ⟨rs, R, h1, h2, _⟩ => ?_) (fun cdv A outer s H vs Q E hr ⟨rs, R, h1, h2, h3⟩ => ?_)
  · rw [Paired.length h1]
    exact hlen H rs R h2
  · obtain ⟨B, hB, q⟩ := hbody cdv A outer s H E hr
    have a0 := start_at (N := N) (ok_pure K H) h1
    refine ⟨_, hB.ps, gam0 N rs, [], [], fin R, a0.len, by rw [List.append_nil, List.append_nil]; exact a0, q rs R h2, ⟨fun Γ σ H' p hl a => ?_, fun Γ σ H' p => p.elim, fun Γ σ H' p => p.elim, fun v H' r fx j rr ⟨p1, p2⟩ => h3 v H' r fx rr p1 p2⟩⟩
    exact h3 .non H' (.dat .none) a.kp rr_non rfl p
end Ab

namespace Ab
open PySem PySem.Spec PyProof.Rows L2
/-! ### f(lambda x: .., e, ..) -/
def capG (Γ : Gam) (j : Nat) : Option G := match Γ[j]? with
  | some (some (.dat d)) => some (.dat d)
  | _ => none
/-- what the lambda says, of the names' data where it is made -/
def lamT (A : XE) (n : Nat) (js : List Nat) (Γ : Gam) : Asp := fun rs P => ∃ d, rs = [.dat d] ∧ A (some (.dat d) :: (js.map (capG Γ) ++ List.replicate n none)) fun r => r.ret = true ∧ P r
def aCallLam (asp : (Asp → V → Prop) → Asp) (A : XE) (n : Nat) (js : List Nat) (L : XA) : XE := fun Γ P => L Γ fun rs => ∀ B : Asp → V → Prop, asp B (.obj (B (lamT A n js Γ)) :: rs.map RV.arg) fun r => (∃ d, r = .dat d ∧ P r)
structure LamOk (No : List Str) (sc scope : Scope) (N : List Str) (fr : List Str) (js : List Nat) (n : Nat) (y : Str) : Prop where
  ns : NdefX.NScope N [y] fr scope
  len : N.length = 1 + js.length + n
  free : ∀ z ∈ scope.names, z.2 = .free → sc.names.lookup z.1 = some .cell
  inF : ∀ z ∈ fr, (z, NameKind.free) ∈ scope.names
  at_ : js.map (fun j => No[j]?) = fr.map some
theorem paired_map_arg {K : PySem.W.Frag} {S : List Addr} {H : Hp} {c : Addr} {φ : Heap → Prop} (hc : H c = some (.ext φ)) : ∀ {vs : List V} {rs : List RV}, Paired (ArgR K S H) vs (rs.map RV.arg) → Paired (ArgR K S (drp c H)) vs (rs.map RV.arg)
  | _, [], .nil => .nil
  | _, r :: rs, .cons a t => .cons (argR_drp hc a arg_arg) (paired_map_arg hc t)
section
variable {X : Cx} {c : Ctx} {e : Expr} {es : List Expr} {L : XA} {p pos lpos : Pos}
theorem ae_callLam {asp : (Asp → V → Prop) → Asp} {A : XE} {g : Addr} {fd : FuncData} {psg : List Str} {k kl n : Nat} {x y : Str} {cc Pt : Addr} {params : Arguments} {body : Expr} {scope : Scope} {N fr No : List Str} {sc : Scope} {js : List Nat}
    (F : ∀ b', FnOk X.prog X.w X.K X.mg b' CX0 k g fd psg (hSp X.K fun H => asp (TestOf X.prog X.w X.K X.mg b' (kl + 1) [y] H))) (hr : Room k X.A) (hg : Gl X x) (hm : X.mg x = some (.ref g)) (hk : PySem.W.keepIn X.K (.ref g) = true) (hb : Binds X.K fd psg [])
    (TB : LamX.TabB X.base X.mg cc Pt) (hcode : X.env.code = .ref cc) (hJ : ∀ H, c.J H → LamX.TabS H Pt (X.env.qual ++ "<lambda>")) (hJ2 : ∀ H H1, c.J H → LamX.TabS H1 Pt (X.env.qual ++ "<lambda>") → (∀ b o, b ≠ Pt → H b = some o → H1 b = some o) → c.J H1) (hPt : Pt ∈ c.S) (hSx : ∀ H, c.J H → ∀ b ∈ c.S, ∀ φ, H b ≠ some (.ext φ))
    (hNo : X.N = No) (hsc : X.env.scope = sc) (LO : LamOk No sc scope N fr js n y) (hfn : ∀ x, X.fn x = true) (hdef : defaultsOf params X.env = ([], []))
    (hbind : ∀ (q : Str) (cl : List (Str × Addr)) (pm cv ctv u : Value), bindArgs (PySem.W.kla_fn "<lambda>" q params body scope cl pm cv ctv) ⟨[u], []⟩ = pure ([y].zip [u]))
    (hbody : ∀ (b' : Heap) (f c' : Addr) (cl : List (Str × Addr)) (A' : Around) (outer : List Env) (s : Shared) (H : Hp) (E : XK), Room kl (A'.deeper (NdefX.envF (lamF (X.env.qual ++ "<lambda>") params scope cl c') f s.heap.objs.size)) →
      PEa (NdefX.ncx CX0 X.prog X.w X.K X.mg b' N (lamF (X.env.qual ++ "<lambda>") params scope cl c') f A' outer s H E).nox (cx0 X.K [] (fun _ => True) H) body A)
    (ha : PAa X c (e :: es) L) (hdb : (x == ("__debug__" : Str)) = false := by decide)
    (he0 : starEach (.Lambda params body scope lpos :: e :: es) X.env = (false, eval (.Lambda params body scope lpos) X.env) :: starEach (e :: es) X.env := by rfl)
    (hpl0 : (backTo pos (starEach (e :: es) X.env)).any (·.1) = false := by rfl) (hK : X.K = c.K := by rfl) :
    PEa X c (.Call (.Name x p) (.Lambda params body scope lpos :: e :: es) [] pos) (aCallLam asp A n js L) := by
  subst hNo hsc
  refine ⟨⟨fun pins s σ H Q I h => ?_⟩⟩
  obtain ⟨Γ, P, at0, hl, kont⟩ := h
  refine wpAny_Call_Name_kw (ld_glob I hg hm ?_ hdb)
  refine PySem.W.callWith_K (h₀ := X.base) I.ok.mod.kin hk ?_ he0 hpl0
  rw [he0]
  show wpAny _ _ (spliced ((false, eval (.Lambda params body scope lpos) X.env) :: backTo pos (starEach (e :: es) X.env))) _ _ s
  have hfree : ∀ z ∈ scope.names, z.2 = .free → ∃ a, X.env.cells.lookup z.1 = some a := fun z hz ez => I.ok.has _ (.inl (LO.free z hz ez))
  refine Calls.spliced_cons (lam_new I TB hcode (hJ H at0.J) hdef hfree fun f c' pm ctv H1 s1 I1 grow T1 of nf f1 f2 hc1 => ?_)
  have fx1 : Fx c.S H H1 := ⟨fun a o na e => grow a o (fun z => na (by rw [z]; exact hPt)) e, fun a xs r => by
    have nP : ∀ {o}, H a = some o → (∀ ps, o ≠ .tbl ps) → a ≠ Pt := fun {o} e q z => by
      obtain ⟨ts, hP, _⟩ := hJ H at0.J
      rw [z, hP] at e
      exact q ts (Option.some.inj e).symm
    rcases r with r | ⟨o, r⟩
    · exact .inl (grow a _ (nP r fun _ z => by cases z) r)
    · exact .inr ⟨o, grow a _ (nP r fun _ z => by cases z) r⟩⟩
  have at1 := at0.grow fx1 (hJ2 H H1 at0.J T1 grow)
  -- the other arguments; the function is pinned
  have I1p : Inv X ((f, _) :: pins) σ H1 s1 := ⟨I1.ok, I1.os, I1.bare, I1.base, I1.loc, I1.cell, I1.free, I1.freeC, fun q hq => by
    rcases List.mem_append.mp hq with hq | hq
    · exact I1.pin q (List.mem_append.mpr (.inl hq))
    · rcases List.mem_cons.mp hq with hq | hq
      · subst hq
        exact ⟨of, nf, f1, f2, fun v z => by cases z⟩
      · exact I1.pin q (List.mem_append.mpr (.inr hq)), I1.hok, I1.len⟩
  have unpin : ∀ {H2 s2}, Inv X ((f, PySem.W.kla_obj "<lambda>" (X.env.qual ++ "<lambda>") params body scope (cloFrom X.env.cells scope.names []) pm c' ctv) :: pins) σ H2 s2 → Inv X pins σ H2 s2 := fun I2 => ⟨I2.ok, I2.os, I2.bare, I2.base, I2.loc, I2.cell, I2.free, I2.freeC, fun q hq => by
    rcases List.mem_append.mp hq with hq | hq
    · exact I2.pin q (List.mem_append.mpr (.inl hq))
    · exact I2.pin q (List.mem_append.mpr (.inr (List.mem_cons_of_mem _ hq))), I2.hok, I2.len⟩
  have hq : X.env.qual ++ "<lambda>" = X.env.qual ++ "<lambda>" := rfl
  refine thn (ha.pa.run pos _ s1 σ H1 (fun vs H2 => ∃ rs, Fx c.S H1 H2 ∧ At c σ H2 Γ ∧ RRs c H1 H2 vs rs ∧ ∀ B : Asp → V → Prop, asp B (.obj (B (lamT A n js Γ)) :: rs.map RV.arg) fun r => (∃ d, r = .dat d ∧ P r)) I1p ⟨Γ, _, at1, hl, fun vs H2 rs f2 at2 r2 q => ⟨rs, f2, at2, r2, q⟩⟩) fun us s2 ⟨vs, H2, I2p, rv, rs, fx2, at2, r2, q⟩ => ?_
  have I2 := unpin I2p
  obtain ⟨of2, nf2, _, _, _⟩ := I2p.pin _ (List.mem_append.mpr (.inr List.mem_cons_self))
  have hc2 : H2 c' = some (LamX.CodeO c' (X.env.qual ++ "<lambda>")) := fx2.keep _ _ (fun z => hSx H1 at1.J c' z _ hc1) hc1
  have hfr : f ∉ frs X.stack := fun z => by
    rcases List.mem_cons.mp (I2.stkSub _ z) with z | z
    · exact f1 z
    · exact f2 z
  have hcf : c' ∉ frs X.stack := fun z => by
    have := I2.stkFree _ z
    rw [hc2] at this
    cases this
  refine ⟨I2.kIn, ?_⟩
  -- the callee's base: all that stands
  obtain ⟨b', eb⟩ : ∃ b', b' = newBase s2.heap (drp c' H2) X.stack := ⟨_, rfl⟩
  have e1 := env0_drp I2.env0 hc2
  have e2 := rebase e1
  rw [← eb] at e2
  have inB : ∀ {a o}, s2.heap.get? a = some o → drp c' H2 a = none → a ∉ frs X.stack → b'.get? a = some o := fun {a o} h1 h2 h3 => by rw [eb]; exact newBase_get h1 h2 h3
  have hfree2 : ∀ z ∈ scope.names, z.2 = .free → ∃ a, X.env.cells.lookup z.1 = some a := fun z hz ez => I2.ok.has _ (.inl (LO.free z hz ez))
  have cm : ∀ {z a}, (cloFrom X.env.cells scope.names []).lookup z = some a → X.env.cells.lookup z = some a := fun {z a} h => NdefX.clo_cm hfree2 h
  have caps : NdefX.CellsAt (cloFrom X.env.cells scope.names []) fr (js.map (NdefX.slotAt σ)) s2.heap H2 := NdefX.cells_of I2 (NdefX.Caps.made I2.ok (fun z hz ez => .inl (LO.free z hz ez)) LO.inF LO.at_)
  have cellB : ∀ {z a v}, (cloFrom X.env.cells scope.names []).lookup z = some a → s2.heap.IsCell a v → b'.IsCell a v := fun {z a v} hz ⟨o, ho, hd⟩ => by
    refine ⟨o, inB ho (drp_none (I2.freeC z a (cm hz))) (fun q => ?_), hd⟩
    rcases List.mem_cons.mp (I2.stkSub _ q) with q | q
    · exact I2.cne z a (cm hz) q
    · obtain ⟨_, o2, ho2, _⟩ := I2.ok.funs.mem q
      exact absurd (Nat.lt_of_lt_of_le (Heap.lt_size ho2) (I2.ok.cab z a (hfn z) (cm hz))) (Nat.lt_irrefl _)
  have test : TestOf X.prog X.w X.K X.mg b' (kl + 1) [y] (drp c' H2) (lamT A n js Γ) (.ref f) := by
    refine ⟨f, _, drp c' H2, rfl, TEx.refl _, lam_fn (k := kl) (pm := pm) (ctv := ctv) (params := params) (body := body) (c' := c') (q := X.env.qual ++ "<lambda>") (cl := cloFrom X.env.cells scope.names []) (ws := js.map (NdefX.slotAt σ)) LO.ns (inB of2 (drp_none nf2) hfr) ?_ (fun z a hz => ?_) caps.inj caps.len (fun i z hi => ?_) (fun vs H Q E ⟨_, rs, R, h1, ⟨d, h2, _⟩, _⟩ => ?_) (fun A' outer s H vs Q E hr' ⟨tx, rs, R, h1, ⟨d, h2, hA⟩, h3⟩ => ?_), ?_, ⟨_, _, _, _, inB of2 (drp_none nf2) hfr⟩⟩
    · obtain ⟨cx, oc, us', t, ecx, g1, g2, g3⟩ := NdefX.codeO_at I2.hok hc2
      cases ecx
      exact ⟨c', oc, us', t, rfl, inB g1 drp_same hcf, g2, g3⟩
    · obtain ⟨_, v, hv⟩ := caps.all z a hz
      exact ⟨v, cellB hz hv⟩
    · obtain ⟨a, h1, h2⟩ := caps.has i z hi
      refine ⟨a, h1, fun v hv => ?_⟩
      obtain ⟨u, g1, g2⟩ := h2 v hv
      exact ⟨u, g1, cellB h1 g2⟩
    · subst h2
      exact (Paired.length h1).trans rfl
    · subst h2
      obtain ⟨v, rfl, hv⟩ : ∃ v, vs = [v] ∧ ArgR X.K [] H v (.dat d) := by
        cases h1 with
        | cons a t =>
          cases t
          exact ⟨_, rfl, a⟩
      refine ⟨_, (hbody b' f c' _ A' outer s H E hr').pe, _, _, ?_, hA, fun v' H' r fx at' rr ⟨p1, p2⟩ => h3 v' H' r fx rr p1 p2⟩
      refine ⟨ok_pure _ H, ?_, fun i g e => ?_, fun i j v ds es e1 => ?_, Fx.refl H, True.intro⟩
      · have := LO.len
        unfold NdefX.startF
        simp
        omega
      · cases i with
        | zero =>
          simp only [List.getElem?_cons_zero, Option.some.injEq] at e
          subst e
          exact ⟨v, rfl, hv⟩
        | succ i =>
          rw [List.getElem?_cons_succ] at e
          by_cases hi : i < js.length
          · rw [List.getElem?_append_left (by simpa using hi), List.getElem?_map, List.getElem?_eq_getElem hi, Option.map_some, Option.some.injEq] at e
            obtain ⟨d', g1, g2⟩ : ∃ d', Γ[js[i]]? = some (some (.dat d')) ∧ g = .dat d' := by
              unfold capG at e
              split at e
              · rename_i d' z
                exact ⟨d', z, (Option.some.inj e).symm⟩
              · cases e
            subst g2
            obtain ⟨v', h1', h2'⟩ := at2.slot _ _ g1
            refine ⟨v', ?_, dp_mono ((tex_drp hc2).trans tx) d' v' h2'.2 (by rw [hK]; exact h2'.1), h2'.2⟩
            unfold NdefX.startF
            rw [List.map_cons, List.map_nil, List.cons_append, List.getElem?_cons_succ, List.nil_append, List.getElem?_append_left (by simpa using hi), List.getElem?_map, List.getElem?_eq_getElem hi, Option.map_some, NdefX.slotAt_of h1']
          · rw [List.getElem?_append_right (by simpa using Nat.le_of_not_lt hi), List.getElem?_replicate] at e
            split at e <;> cases e
      · exfalso
        cases i with
        | zero => cases e1
        | succ i =>
          rw [List.getElem?_cons_succ] at e1
          by_cases hi : i < js.length
          · rw [List.getElem?_append_left (by simpa using hi), List.getElem?_map, List.getElem?_eq_getElem hi, Option.map_some, Option.some.injEq] at e1
            unfold capG at e1
            split at e1 <;> cases e1
          · rw [List.getElem?_append_right (by simpa using Nat.le_of_not_lt hi), List.getElem?_replicate] at e1
            split at e1 <;> cases e1
    · exact Binds.all fun us hl => match us, hl with | [u], _ => hbind _ _ _ _ _ u
  have sp : hSp X.K (fun H => asp (TestOf X.prog X.w X.K X.mg b' (kl + 1) [y] H)) (.ref f :: vs) (drp c' H2) (fun v H' => H' c' = none → Q v (upd H' c' (LamX.CodeO c' (X.env.qual ++ "<lambda>")))) E0 := by
    refine ⟨RV.obj (TestOf X.prog X.w X.K X.mg b' (kl + 1) [y] (drp c' H2) (lamT A n js Γ)) :: rs.map RV.arg, _, .cons test (paired_map_arg hc2 (by rw [hK]; exact argRs_of (T := []) (fun _ h => by simp at h) r2)), q _, fun v H' r fx rr hret ⟨d, er, hP⟩ nc => ?_⟩
    subst er
    have t3 : TEx H2 (upd H' c' (LamX.CodeO c' (X.env.qual ++ "<lambda>"))) := fun a xs z => by
      have := fx.tup a xs (tex_drp hc2 a xs z)
      rcases this with z | ⟨o, z⟩
      · exact .inl (by rw [upd_ne (ne_of_none z nc)]; exact z)
      · exact .inr ⟨o, by rw [upd_ne (ne_of_none z nc)]; exact z⟩
    have fx3 : Fx [] H2 (upd H' c' (LamX.CodeO c' (X.env.qual ++ "<lambda>"))) := ⟨fun a o _ e => by
      by_cases ha' : a = c'
      · rw [ha'] at e ⊢
        rw [upd_same, ← hc2]
        exact e
      · rw [upd_ne ha']
        exact fx.keep a o (by simp) (by rw [drp_ne ha']; exact e), t3⟩
    have at3 := at2.ext fx3
    refine kont v _ (.dat d) (fx1.trans (fx2.trans fx3.nil)) at3 ⟨dp_mono (fun a xs z => ?_) d v rr.2 (by rw [← hK]; exact rr.1), rr.2⟩ hP
    rcases z with z | ⟨o, z⟩
    · exact .inl (by rw [upd_ne (ne_of_none z nc)]; exact z)
    · exact .inr ⟨o, by rw [upd_ne (ne_of_none z nc)]; exact z⟩
  have hlen : ((Value.ref f :: us) ++ []).length = psg.length := by
    rw [List.append_nil, ← (F b').len _ _ _ _ sp, List.length_cons, List.length_cons, rv.length]
  refine wpAny_call (codeAny_mono ((F b').run X.A X.stack s2 (drp c' H2) ⟨Value.ref f :: us, []⟩ ((Value.ref f :: us) ++ []) (V.ref f :: vs) _ E0 hr e2 (hb s2 _ I2.kIn hlen) (by rw [List.append_nil]; exact .cons rfl rv) sp) fun r s3 h => ?_)
  cases r with
  | error e => exact (show False from h).elim
  | ok fl =>
    cases fl with
    | next => exact False.elim h
    | brk => exact False.elim h
    | cont => exact False.elim h
    | ret u =>
      have h3 := ce_put I2.hok hc2 hcf h
      obtain ⟨v, H', I3, r3, H4, e4, n4, q4⟩ := I2.after h3
      exact ⟨v, H', I3, r3, by rw [e4]; exact q4 n4⟩
end
end Ab

namespace Ab
open PySem PySem.Spec PyProof.Rows L2
/-! ### a def whose code object is known (it makes lambdas) -/
structure FunT (K : PySem.W.Frag) (x qual : Str) (st : Stmt) (f : Addr) (fd : FuncData) (cc : Addr) : Prop where
  ex : ∃ (oc : Value) (od : Option Addr) (kV doc pm : Value) (an : Option Addr) (ct : Value) (osl : Array (Option Value)),
    fd = PySem.W.fnOf x qual (defArgs st) (defBody st) (defScope st) .none kV doc pm an (.ref cc) ct ∧ K.lookup f = some ⟨oc, od, .func fd, osl⟩ ∧ PySem.W.codeIn K (.ref cc) qual = true
  kp : PySem.W.keepIn K (.ref f) = true
theorem funT_mk {K : PySem.W.Frag} {x qual : Str} {st : Stmt} {f cc : Addr} {oc : Value} {od an : Option Addr} {osl : Array (Option Value)} {kV doc pm ct : Value} (l : K.lookup f = some ⟨oc, od, .func (PySem.W.fnOf x qual (defArgs st) (defBody st) (defScope st) .none kV doc pm an (.ref cc) ct), osl⟩)
    (c : PySem.W.codeIn K (.ref cc) qual = true) (k : PySem.W.keepIn K (.ref f) = true) : FunT K x qual st f (PySem.W.fnOf x qual (defArgs st) (defBody st) (defScope st) .none kV doc pm an (.ref cc) ct) cc := ⟨⟨oc, od, kV, doc, pm, an, ct, osl, rfl, l, c⟩, k⟩
theorem FunT.plain {K : PySem.W.Frag} {x qual : Str} {st : Stmt} {f cc : Addr} {fd : FuncData} (F : FunT K x qual st f fd cc) : Fun K x qual st f fd := by
  obtain ⟨⟨oc, od, kV, doc, pm, an, ct, osl, e, l, c⟩, kp⟩ := F
  exact ⟨⟨oc, od, kV, doc, pm, an, _, ct, osl, e, l, c⟩, kp⟩
theorem FunT.ok {P : Program} {w : World} {K : PySem.W.Frag} {mg : Str → Option Value} {base : Heap} {x qual : Str} {st : Stmt} {f cc : Addr} {fd : FuncData} {N ps : List Str} {k : Nat} {sp : Sp} (F : FunT K x qual st f fd cc) (S : FnScope N ps (defScope st)) (len : ∀ vs H Q E, sp vs H Q E → vs.length = ps.length)
    (hbody : ∀ (A : Around) (outer : List Env) (s : Shared) (H : Hp) (vs : List V) (Q : VK) (E : XK), Room k (A.deeper (envOfC qual (defScope st) s.heap.objs.size f (.ref cc))) → sp vs H Q E →
      ∃ t, PSs (cxOf CX0 P w K mg base N qual (defScope st) f (.ref cc) A outer s H E).nox (defBody st) t ∧ t { nx := fun _ H' => Q .non H', rt := Q } (L2.start N vs) H) : FnOk P w K mg base CX0 (k + 1) f fd ps sp := by
  obtain ⟨⟨oc, od, kV, doc, pm, an, ct, osl, e, l, c⟩, kp⟩ := F
  subst e
  refine ⟨len, fun A outer s H args us vs Q E hr e0 hb r hsp => ?_⟩
  refine LamX.run_ofS l c S hr e0 hb r (len _ _ _ _ hsp) fun hr' => ?_
  obtain ⟨t, h1, h2⟩ := hbody A outer s H vs Q E hr' hsp
  exact ⟨t, PSs.nox h1, h2⟩
theorem def_tab {P : Program} {w : World} {K : PySem.W.Frag} {T : List Addr} {mg : Str → Option Value} {base : Heap} {x qual : Str} {st : Stmt} {f cc : Addr} {fd : FuncData} {N ps : List Str} {k : Nat} {W : Addr → (Hp → Prop) → Prop} {asp : Addr → Asp} (F : FunT K x qual st f fd cc) (Sc : FnScope N ps (defScope st)) (hlen : ∀ a rs P, asp a rs P → rs.length = ps.length)
    (hok : ∀ a J H, W a J → J H → (cx0 K (a :: T) J H).Ok)
    (hbody : ∀ (A : Around) (outer : List Env) (s : Shared) (H : Hp) (E : XK) (a : Addr) (J : Hp → Prop), W a J → J H → Room k (A.deeper (envOfC qual (defScope st) s.heap.objs.size f (.ref cc))) → ∃ B, PSts (cxOf CX0 P w K mg base N qual (defScope st) f (.ref cc) A outer s H E).nox (cx0 K (a :: T) J H) (defBody st) B ∧ ∀ rs P, asp a rs P → B (fin P) (gam0 N rs)) :
    FnOk P w K mg base CX0 (k + 1) f fd ps (dSp K T W asp) := by
  refine F.ok Sc (fun vs H Q E ⟨a, J, rs, R, _, _, h1, h2, _⟩ => ?_) (fun A outer s H vs Q E hr ⟨a, J, rs, R, hW, hJ, h1, h2, h3⟩ => ?_)
  · rw [Paired.length h1]
    exact hlen a rs R h2
  · obtain ⟨B, hB, q⟩ := hbody A outer s H E a J hW hJ hr
    have a0 := start_at (N := N) (hok a J H hW hJ) h1
    refine ⟨_, hB.ps, gam0 N rs, [], [], fin R, a0.len, by rw [List.append_nil, List.append_nil]; exact a0, q rs R h2, ⟨fun Γ σ H' p hl at_ => ?_, fun Γ σ H' p => p.elim, fun Γ σ H' p => p.elim, fun v H' r fx j rr ⟨p1, p2⟩ => h3 v H' r fx j rr p1 p2⟩⟩
    exact h3 .non H' (.dat .none) at_.kp at_.J rr_non rfl p
/-! ### tables of code objects -/
theorem tabS_keep {H H' : Hp} {P : Addr} {q : Str} (t : LamX.TabS H P q) (e : ∀ b o, (∀ xs, o ≠ .lst xs) → H b = some o → H' b = some o) : LamX.TabS H' P q := by
  obtain ⟨ps, h1, h2, h3⟩ := t
  refine ⟨ps, e _ _ (fun xs z => by cases z) h1, h2, fun pos cv hc => ?_⟩
  obtain ⟨c, e1, e2⟩ := h3 pos cv hc
  exact ⟨c, e1, e _ _ (fun xs z => by unfold LamX.CodeO at z; cases z) e2⟩
theorem tabs_keep {H H' : Hp} {T : List (Addr × Str)} (t : LamX.Tabs T H) (e : ∀ b o, (∀ xs, o ≠ .lst xs) → H b = some o → H' b = some o) : LamX.Tabs T H' := fun p hp => tabS_keep (t p hp) e
theorem tabs_one {H H1 : Hp} {T : List (Addr × Str)} {Pt : Addr} {q : Str} (t : LamX.Tabs T H) (hm : (Pt, q) ∈ T) (hu : ∀ p ∈ T, p.1 = Pt → p.2 = q) (t1 : LamX.TabS H1 Pt q) (e : ∀ b o, b ≠ Pt → H b = some o → H1 b = some o) : LamX.Tabs T H1 := fun p hp => by
  by_cases hb : p.1 = Pt
  · rw [hu p hp hb, hb]
    exact t1
  · obtain ⟨ts, hP, _⟩ := t _ hm
    obtain ⟨ps, h1, h2, h3⟩ := t p hp
    refine ⟨ps, e _ _ hb h1, h2, fun pos cv hc => ?_⟩
    obtain ⟨c, e1, e2⟩ := h3 pos cv hc
    refine ⟨c, e1, e _ _ (fun z => ?_) e2⟩
    rw [z, show H Pt = _ from hP] at e2
    exact LamX.codeO_ne _ (Option.some.inj e2).symm
/-! ### the end of a law with tables -/
theorem walk_tab {l : PySem.W.OpenLaw} {n k : Nat} {q : Program} {loose : List Str} {XP : (Str → Option Value) → Heap → Prop} {YP : World → Heap → Prop} {d : DefRec} {K : Params → PySem.W.Frag} {x : Str}
    (hn : l.most = some n) (hn2 : n ≤ sizeLine) (hdf : d.params.defaults = []) (hr : Room k callerA) (hY : ∀ (w : World) (h : Heap), YP w h → (K w.params).In h)
    (F : ∀ (w : World) (mg mb : Str → Option Value) (mean : ExcName → Option Value) (fa : Addr) (h : Heap), YP w h → (K w.params).In h → PyProof.Rows.Top q (PySem.W.looseW q loose) mean mg mb h → h.Ns mainGlobals mg → mg d.name = some (.ref fa) → LamX.LawAtS l w (K w.params) CX0 k n x mg fa h) :
    PySem.W.WalkO q loose XP YP l.row.toRowW d [] (fun f vs => PySem.call f vs) := by
  refine Att.attach_callB hn hdf fun w s₀ s₁ mg mb fa o pm cd doc a vs ns G Y ho hd hcd hmg hobj hints hlen hbits hg => ?_
  have KX := hY w _ Y
  obtain ⟨fd, cs, sp, hT, nT, C, hb, hsp, hF⟩ := F w mg mb _ fa _ Y KX G.T G.T.g hmg
  exact LamX.law_callTs KX G.T.g G.T.b G.T.builtins G.T.nolimit hg hT nT C G.T.bmain hobj hints (Nat.le_trans hlen hn2) hr hF hb (fun H hH hS => hsp H a ns hlen hbits hH hS) fun H e s' z => z
end Ab

namespace Ab
open PySem PySem.Spec PyProof.Rows L2
section
theorem TEx.refl6 (H : Hp) : TEx H H := fun _ _ h => h
theorem TEx.trans6 {H1 H2 H3 : Hp} (a : TEx H1 H2) (b : TEx H2 H3) : TEx H1 H3 := fun x xs h => b x xs (a x xs h)
variable {X : Cx} {c : Ctx} {e a b d tg : Expr} {A B C : XE} {p pos : Pos}
/-! ### enumerate(list) -/
def enumD (ds : List PyData) : List PyData := (List.range ds.length).map fun k => .tuple [.int ((k : Nat) : Int), ds.getD k .none]
theorem enumD_get {ds : List PyData} {k : Nat} {d : PyData} : (enumD ds)[k]? = some d ↔ ∃ y, ds[k]? = some y ∧ d = .tuple [.int ((k : Nat) : Int), y] := by
  unfold enumD
  rw [List.getElem?_map]
  by_cases h : k < ds.length
  · rw [List.getElem?_range h, List.getElem?_eq_getElem h, Option.map_some, Option.some.injEq]
    simp only [List.getD, List.getElem?_eq_getElem h, Option.getD_some, Option.some.injEq, exists_eq_left']
    exact ⟨fun e => e.symm, fun e => e.symm⟩
  · rw [List.getElem?_eq_none (by simpa using h), List.getElem?_eq_none (by omega)]
    simp
theorem enumD_len {ds : List PyData} : (enumD ds).length = ds.length := by simp [enumD]
theorem yl_enum {a : Addr} {H1 : Hp} {ds : List PyData} (hi : immAll ds = true) (hs : Stb c H1 (ZL c H1 a ds)) : Yl c (Ite c.K a) (ZL c H1 a ds) (enumD ds) where
  go := fun i H ⟨⟨vs, h1, h2⟩, _⟩ hk => by
    rw [enumD_len] at hk
    have : i < vs.length := by rw [dpAll_length h2]; exact hk
    exact ⟨vs, vs[i], h1, List.getElem?_eq_getElem this⟩
  stop := fun i H ⟨⟨vs, h1, h2⟩, _⟩ hk => ⟨vs, h1, by rw [dpAll_length h2]; rw [enumD_len] at hk; exact hk⟩
  yld := fun i H x H' ⟨⟨vs, h1, h2⟩, h3⟩ hk ⟨T, y, e, hT, e2, q⟩ => by
    subst e e2
    have f : Fx [] H (upd H T (.tup [.int (i : Nat), y])) := Fx.new hT
    obtain ⟨d, g1, g2⟩ := dpAll_getV h2 (q vs h1)
    have gi := immAll_get hi g1
    refine ⟨f, hs _ _ ⟨⟨vs, h1, h2⟩, h3⟩ f.tup fun a o n _ e => f.keep a o (by simp) e, .tuple [.int (i : Nat), d], enumD_get.mpr ⟨d, g1, rfl⟩, .tup (.inl (.inl upd_same)) (.cons (.int _) (.cons (dp_mono f.tup _ _ gi g2) .nil)), by simp [imm, immAll, gi]⟩
def aIEnum (A : XE) : XI := fun Γ P => A Γ fun x => ∃ ds, x.lst? = some ds ∧ P (enumD ds) false
theorem ai_enumerate {elts : List Expr} {kk : Nat} {tpos : Pos} (hg : Gl X "enumerate") (hm : X.mg "enumerate" = none) (ha : PEa X c e A) (hs : starEach [e] X.env = [(false, eval e X.env)] := by rfl) (h0 : starEach ([] : List Expr) X.env = [] := by rfl) (hK : X.K = c.K := by rfl) :
    PIa X c (.Tuple elts kk tpos) (.Call (.Name "enumerate" p) [e] [] pos) (aIEnum A) :=
  ⟨pi_imp (pi_enum hg hm (pa_cons ha.pe pa_nil (by rw [hs, h0])) hs) fun σ H R ⟨Γ, P, at_, p, k⟩ => by
    rw [hK]
    refine ⟨Γ, _, at_, p, fun v H1 r f1 at1 r1 ⟨ds, es, q⟩ => ?_⟩
    obtain ⟨a, vs, rfl, h2, h3, d1, i1⟩ := r1.ro.lst es
    exact ⟨a, vs, rfl, h3, k _ H1 (enumD ds) false (ZL c H1 a ds) f1 at1 (zl_at h3 h3 d1) (stb_list h2 i1) (fun z => by cases z) (yl_enum i1 (stb_list h2 i1)) q⟩⟩
/-! ### two fors, the inner one over a tuple -/
theorem sets_own : ∀ {js : List Nat} {ds : List PyData} {Γ Γ' : Gam} {j : Nat} {xs : List PyData}, setsG js ds Γ = some Γ' → Γ'[j]? = some (some (.own xs)) → Γ[j]? = some (some (.own xs))
  | [], [], Γ, Γ', j, xs, e, h => by
    cases e
    exact h
  | [], _ :: _, _, _, _, _, e, _ => by cases e
  | _ :: _, [], _, _, _, _, e, _ => by cases e
  | i :: js, d :: ds, Γ, Γ', j, xs, e, h => by
    unfold setsG at e
    split at e
    · rename_i hi
      have := sets_own e h
      by_cases hj : i = j
      · subst hj
        rw [List.getElem?_set_self hi] at this
        cases this
      · rwa [List.getElem?_set_ne hj] at this
    · cases e
theorem go_own {t : Tgt} {d : PyData} {Γ Γ' : Gam} {j : Nat} {xs : List PyData} (e : t.go d Γ = some Γ') (h : Γ'[j]? = some (some (.own xs))) : Γ[j]? = some (some (.own xs)) := by
  cases t with
  | nm k => exact sets_own e h
  | tp js =>
    cases d with
    | tuple ds => exact sets_own e h
    | none => cases e
    | bool _ => cases e
    | int _ => cases e
    | str _ => cases e
    | list _ => cases e
    | dict _ => cases e
def aLc2 (I : XI) (t : Tgt) (T : XT) (A1 : XE) (t1 : Tgt) (T1 : XT) (E : XE) (vs vs1 : List Nat) : XE := fun Γ P => I Γ fun items _ => ∃ Iv : Nat → List PyData → Prop, Iv 0 [] ∧
  (∀ (i : Nat) d, items[i]? = some d → ∀ acc, Iv i acc → ∃ Γ2, t.go d (wipeG Γ vs) = some Γ2 ∧ T Γ2 fun b => if b = true then A1 Γ2 fun r1 => ∃ inner, r1 = .dat (.tuple inner) ∧ ∃ Iw : Nat → List PyData → Prop, Iw 0 acc ∧
    (∀ (j : Nat) d1, inner[j]? = some d1 → ∀ acc, Iw j acc → ∃ Γ3, t1.go d1 (wipeG Γ2 vs1) = some Γ3 ∧ T1 Γ3 fun b => if b = true then E Γ3 fun r => ∃ y, r = .dat y ∧ acc.length < sizeLine ∧ Iw (j + 1) (acc ++ [y]) else Iw (j + 1) acc) ∧
    ∀ acc, Iw inner.length acc → Iv (i + 1) acc else Iv (i + 1) acc) ∧
  ∀ acc, Iv items.length acc → P (.new acc)
theorem lc2_imp {I : XI} {t t1 : Tgt} {T T1 : XT} {A1 E : XE} {vs vs1 : List Nat} (ht : ∀ j ∈ t.slots, j ∈ vs) (ht1 : ∀ j ∈ t1.slots, j ∈ vs1) (σ : L2.St) (H : Hp) (Q : VK) (h : gE c (aLc2 I t T A1 t1 T1 E vs vs1) σ H Q) :
    tLc2 (gI c I) (t.tg c.K) (gT c T) (iSeq c.K (gE c A1)) (t1.tg c.K) (gT c T1) (gE c E) vs vs1 σ H Q := by
  obtain ⟨Γ, P, at_, p, k⟩ := h
  refine ⟨Γ, _, at_, p, fun J H1 items gh Z f1 at1 z1 zs _ yl ⟨Iv, i0, istep, iend⟩ D hD => ?_⟩
  have fr := at1.fresh hD
  have noD : NoSlot σ Γ D := fun j ds e1 e2 => by
    obtain ⟨v, g1, x, ws, g2, _, _, g3, _⟩ := at1.slot j _ e1
    rw [e2] at g1
    cases g1
    cases g2
    rw [hD] at g3
    cases g3
  have f0 : Fx c.S H1 (upd H1 D (.lst [])) := Fx.new hD
  refine ⟨fun i m H' => m = items.length - i ∧ i ≤ items.length ∧ ∃ ds, Iv i ds ∧ LcSt c σ Γ Z H1 D ds H', ⟨items.length, by omega, by omega, [], i0, ⟨[], upd_same, .nil, rfl⟩, at1.new hD, zs _ _ z1 f0.tup fun a o n _ e => f0.keep a o n e, fun a o _ n e => by rw [upd_ne n]; exact e, f0.tup⟩, ?_⟩
  rintro i m H2 ⟨rfl, hi, ds, iv, L2_⟩
  by_cases hlt : i < items.length
  · refine .inr ⟨yl.go i H2 L2_.z hlt, fun H' => ∃ ds, Iv (i + 1) ds ∧ LcSt c σ Γ Z H1 D ds H', fun H' hN => ⟨items.length - (i + 1), by omega, rfl, hlt, hN⟩, fun x H3 hy => ?_⟩
    obtain ⟨f3, z3, d, hd, dp3, id3⟩ := yl.yld i H2 x H3 L2_.z hlt hy
    have L3 : LcSt c σ Γ Z H1 D ds H3 := L2_.fx fr.1 zs f3.nil (L2_.at_.ext f3).J
    obtain ⟨Γ2, et, q⟩ := istep i d hd ds iv
    have atw : At c (wipe σ vs ++ []) H3 (wipeG Γ vs ++ []) := by
      rw [List.append_nil, List.append_nil]
      exact L3.at_.wipe vs
    refine tgt_run (τ := []) (Δ := []) dp3 id3 (by rw [wipe_length, wipeG_len]; exact at_.len) atw et fun σ4 hl4 at4 w4 => ?_
    rw [List.append_nil, List.append_nil] at at4
    have w4' : wipe σ4 vs = wipe σ vs := by rw [w4 vs ht, wipe_wipe]
    have noD4 : NoSlot σ4 Γ2 D := fun j ds e1 e2 => by
      obtain ⟨g1, g2⟩ := wipeG_some (go_own et e1)
      refine noD j ds g1 ?_
      rw [← wipe_out (σ := σ) g2, ← w4', wipe_out g2]
      exact e2
    refine ⟨w4', Γ2, _, at4, q, fun b H5 f5 at5 q5 => ?_⟩
    have L5 : LcSt c σ Γ Z H1 D ds H5 := L3.fx fr.1 zs f5 at5.J
    cases b with
    | false => exact ⟨ds, q5, L5⟩
    | true =>
      refine ⟨Γ2, _, at5, q5, fun v6 H6 r6 f6 at6 rr6 ⟨inner, er, Iw, w0, wstep, wend⟩ => ?_⟩
      subst er
      have L6 : LcSt c σ Γ Z H1 D ds H6 := L5.fx fr.1 zs f6 at6.J
      obtain ⟨a, us, rfl, t6, d6, i6⟩ := rr6.ro.tup
      refine ⟨a, rfl, .inr ⟨⟨us, t6⟩, ?_⟩⟩
      refine ⟨fun j n H' => n = inner.length - j ∧ j ≤ inner.length ∧ ∃ ds, Iw j ds ∧ LcSt c σ Γ Z H1 D ds H' ∧ At c σ4 H' Γ2 ∧ TEx H6 H', ⟨inner.length, by omega, by omega, ds, w0, L6, at6, TEx.refl6 H6⟩, ?_⟩
      rintro j n H7 ⟨rfl, hj, ds7, iw, L7, at7, tx7⟩
      have t7 := sqT_keep tx7 t6
      have d7 := dpAll_mono tx7 _ _ i6 d6
      have hl : us.length = inner.length := dpAll_length d6
      by_cases hjl : j < inner.length
      · refine .inr ⟨⟨us, us[j]'(by omega), t7, List.getElem?_eq_getElem _⟩, fun H' => ∃ ds, Iw (j + 1) ds ∧ LcSt c σ Γ Z H1 D ds H' ∧ At c σ4 H' Γ2 ∧ TEx H6 H', fun H' hN => ⟨inner.length - (j + 1), by omega, rfl, hjl, hN⟩, fun x8 H8 ⟨e8, y8⟩ => ?_⟩
        subst e8
        obtain ⟨d8, g1, g2⟩ := dpAll_getV d7 (y8 us t7)
        have gi := immAll_get i6 g1
        obtain ⟨Γ3, et1, q8⟩ := wstep j d8 g1 ds7 iw
        have atw1 : At c (wipe σ4 vs1 ++ []) H8 (wipeG Γ2 vs1 ++ []) := by
          rw [List.append_nil, List.append_nil]
          exact at7.wipe vs1
        refine tgt_run (τ := []) (Δ := []) g2 gi (by rw [wipe_length, wipeG_len]; exact at7.len) atw1 et1 fun σ9 hl9 at9 w9 => ?_
        rw [List.append_nil, List.append_nil] at at9
        refine ⟨by rw [w9 vs1 ht1, wipe_wipe], Γ3, _, at9, q8, fun b9 H10 f10 at10 q10 => ?_⟩
        have L10 := L7.fx fr.1 zs f10 at10.J
        have at10' := at7.grow f10 at10.J
        cases b9 with
        | false => exact ⟨ds7, q10, L10, at10', tx7.trans6 f10.tup⟩
        | true =>
          refine ⟨Γ3, _, at10, q10, fun y11 H11 r11 f11 at11 rr11 ⟨yd, er, hz, iw'⟩ => ?_⟩
          subst er
          have at11' := at10'.grow f11 at11.J
          obtain ⟨⟨acc, hacc, dacc, iacc⟩, at12, z12, kp12, tx12⟩ := L10.fx fr.1 zs f11 at11.J
          have t12 : TEx H11 (upd H11 D (.lst (acc ++ [y11]))) := tex_lst hacc
          refine ⟨acc, hacc, by rw [dpAll_length dacc]; exact hz, ds7 ++ [yd], iw', ⟨⟨acc ++ [y11], upd_same, dpAll_append (dpAll_mono t12 _ _ iacc dacc) (.cons (dp_mono t12 _ _ rr11.2 rr11.1) .nil), by simp [immAll_append, iacc, immAll, rr11.2]⟩, at12.other fr.2 hacc noD, zs _ _ z12 t12 fun a o n h1 e => ?_, fun a o n nd e => by rw [upd_ne nd]; exact kp12 a o n nd e, fun a xs r => t12 a xs (tx12 a xs r)⟩, at11'.other fr.2 hacc noD4, ((tx7.trans6 f10.tup).trans6 f11.tup).trans6 t12⟩
          rw [upd_ne fun z => h1 (by rw [z]; exact hD)]
          exact e
      · have ej : j = inner.length := by omega
        subst ej
        exact .inl ⟨⟨us, t7, by omega⟩, ds7, wend ds7 iw, L7⟩
  · have e : i = items.length := by omega
    subst e
    refine .inl ⟨yl.stop _ H2 L2_.z (Nat.le_refl _), ?_⟩
    obtain ⟨⟨acc, hacc, dacc, iacc⟩, at2, z2, kp2, tx2⟩ := L2_
    have f2 : Fx c.S H H2 := ⟨fun a o n e => kp2 a o n (ne_of_none (f1.keep a o n e) hD) (f1.keep a o n e), fun a xs r => tx2 a xs (f1.tup a xs r)⟩
    exact k (.ref D) H2 (.new ds) f2 at2 (rr_new (f1.free fr.1 hD) fr.1 hacc dacc iacc) (iend ds iv)
theorem ae_lc2 {elt iter tg1 iter1 : Expr} {ifs ifs1 : List Expr} {scope : Scope} {own : List (Str × Nat)} {vs1 : List Nat} {I : XI} {t t1 : Tgt} {T T1 : XT} {A1 E : XE} (hc : X.calm = true) (hN : X.N.Nodup) (hi : PIa X c tg iter I) (ok : BlkOk X.N X.env.scope scope own) (hv1 : ∀ i ∈ vs1, i ∈ own.map (·.2))
    (hg : ∀ (s : Shared) (H : Hp) (C : Addr) (cl : List (Str × Addr)) (fp : List Addr), PGa (X.blk s H scope (compEnvC scope cl C X.env) fp) c tg t) (ht : ∀ (s : Shared) (H : Hp) (C : Addr) (cl : List (Str × Addr)) (fp : List Addr), PTsa (X.blk s H scope (compEnvC scope cl C X.env) fp) c ifs T)
    (hi1 : ∀ (s : Shared) (H : Hp) (C : Addr) (cl : List (Str × Addr)) (fp : List Addr), PEa (X.blk s H scope (compEnvC scope cl C X.env) fp) c iter1 A1)
    (hg1 : ∀ (s : Shared) (H : Hp) (C : Addr) (cl : List (Str × Addr)) (fp : List Addr), PGa (X.blk s H scope (compEnvC scope cl C X.env) fp) c tg1 t1) (ht1 : ∀ (s : Shared) (H : Hp) (C : Addr) (cl : List (Str × Addr)) (fp : List Addr), PTsa (X.blk s H scope (compEnvC scope cl C X.env) fp) c ifs1 T1)
    (he : ∀ (s : Shared) (H : Hp) (C : Addr) (cl : List (Str × Addr)) (fp : List Addr), PEa (X.blk s H scope (compEnvC scope cl C X.env) fp) c elt E) (hs : ∀ x, foldedSetIterable iter X.env x = pure x := by intro _; rfl) (hs1 : ∀ env x, foldedSetIterable iter1 env x = pure x := by intro _ _; rfl) (hv : ∀ j ∈ t.slots, j ∈ own.map (·.2) := by decide) (hw : ∀ j ∈ t1.slots, j ∈ vs1 := by decide) (hK : X.K = c.K := by rfl) :
    PEa X c (.ListComp elt [⟨tg, iter, ifs, 0⟩, ⟨tg1, iter1, ifs1, 0⟩] scope pos) (aLc2 I t T A1 t1 T1 E (own.map (·.2)) vs1) :=
  ⟨pe_imp (pe_lc2 hc hN hi.pi ok hv1 (fun s H C cl fp => (hg s H C cl fp).pg) (fun s H C cl fp => (ht s H C cl fp).pts) (fun s H C cl fp => pi_seq (hi1 s H C cl fp).pe) (fun s H C cl fp => (hg1 s H C cl fp).pg) (fun s H C cl fp => (ht1 s H C cl fp).pts) (fun s H C cl fp => (he s H C cl fp).pe) hs hs1) fun σ H Q h => by
    have := lc2_imp hv hw σ H Q h
    rw [← hK] at this ⊢
    exact this⟩
/-! ### sorted, of a list of ints; an int of the module -/
def kSorted : XC := fun rs P => ∃ r ds ns, rs = [r] ∧ r.lst? = some ds ∧ intsOf ds = some ns ∧ ∀ ms : List Int, ms.Perm ns → ms.Pairwise (· ≤ ·) → P (.new (ms.map .int))
theorem dpAll_ints {K : PySem.W.Frag} {H : Hp} : ∀ ms : List Int, DpAll K H (ms.map V.int) (ms.map PyData.int)
  | [] => .nil
  | m :: ms => .cons (.int m) (dpAll_ints ms)
theorem ka_sorted (hK : X.K = c.K := by rfl) : CallA X c (.builtin "sorted") kSorted := ⟨callR_imp cr_sortedI fun vs H Q ⟨rs, P, ⟨σ, Γ, at_⟩, h, ⟨r, ds, ns, e, e1, e2, q⟩, k⟩ => by
  subst e
  obtain ⟨v, rfl, ro⟩ := ros_one h
  obtain ⟨a, vs, rfl, _, t1, d1, i1⟩ := ro.lst e1
  cases intsOf_ok d1 e2
  rw [hK]
  refine ⟨a, ns, rfl, t1, fun ms p h1 h2 hp => ?_⟩
  have f : Fx [] H (upd H p (.lst (ms.map V.int))) := Fx.new hp
  exact k _ _ _ f (rr_new hp (at_.fresh hp).1 upd_same (dpAll_ints ms) (immAll_of fun x hx => by
    obtain ⟨m, _, rfl⟩ := List.mem_map.mp hx
    rfl)) (q ms h1 h2)⟩
theorem pe_globI {x : Str} {v : Int} {t : Tok} (hg : Gl X x) (hm : X.mg x = some (.int v t)) (hd : (x == ("__debug__" : Str)) = false := by decide) : PE X (.Name x p) (fun σ H Q => Q (.int v) H) := ⟨fun pins s σ H Q I h => ld_glob I hg hm ⟨.int v, H, I, ⟨t, rfl⟩, h⟩ hd⟩
theorem bo_sorted : bootBuiltins "sorted" = some (.builtin "sorted") := by decide +kernel
end
end Ab

namespace Ab
open PySem PySem.Spec PyProof.Rows L2
/-! ### the frame of a generator expression -/
theorem over_loopG {A : Around} {elt tg iter : Expr} {scope : Scope} {pos : Pos} {it acc : Value} {env : Env} : A.over (.compLoop (.GeneratorExp elt [⟨tg, iter, [], 0⟩] scope pos) 0 it acc env) [] = A.deeper env := by
  first
    | rfl
    | (obtain ⟨hd, d, fr, gs, u⟩ := A; simp [Around.over, Around.deeper, marksOver, frameCount, unitsOf, envsOf, guardsOf, pushEnvs, pushGuards, Code.envs, Code.env?, Code.isFrame, Code.guards, Code.isGuard, Code.weight, Code.frames, Code.isCreation, Code.isCaller, Code.cUnits])
theorem over_startG {A : Around} {elt tg iter : Expr} {scope : Scope} {pos : Pos} {it acc : Value} {env : Env} : A.over (.compStart (.GeneratorExp elt [⟨tg, iter, [], 0⟩] scope pos) 0 it acc env) [] = A.deeper env := by
  first
    | rfl
    | (obtain ⟨hd, d, fr, gs, u⟩ := A; simp [Around.over, Around.deeper, marksOver, frameCount, unitsOf, envsOf, guardsOf, pushEnvs, pushGuards, Code.envs, Code.env?, Code.isFrame, Code.guards, Code.isGuard, Code.weight, Code.frames, Code.isCreation, Code.isCaller, Code.cUnits])
/-- its context: s, H what stood when it was made; fp: the iterator's objects -/
def gxx (X : Cx) (s : Shared) (H : Hp) (scope : Scope) (cl : List (Str × Addr)) (code : Value) (fp : List Addr) : Cx where
  prog := X.prog
  w := X.w
  K := X.K
  mg := X.mg
  base := X.base
  A := X.A.in1.in1.deeper (genEnv scope cl s.heap.objs.size code builtinsNs X.env)
  N := X.N
  s_0 := s
  H_0 := H
  env := genEnv scope cl s.heap.objs.size code builtinsNs X.env
  outer := X.stack
  stack := genEnv scope cl s.heap.objs.size code builtinsNs X.env :: X.stack
  ex := fp
  fn := fun _ => false
  calm := true
  pn := []
  xe := fun _ _ => False
/-- all but toks, generators is alike -/
theorem inv_same {X : Cx} {pins : List (Addr × Obj)} {σ : L2.St} {H : Hp} {s s' : Shared} (I : Inv X pins σ H s) (e1 : s'.heap = s.heap) (e2 : s'.os = s.os) (e3 : AllBare s'.gens) : Inv X pins σ H s' := by
  refine ⟨I.ok, e2.trans I.os, e3, ?_, ?_, ?_, I.free, I.freeC, ?_, ?_, I.len⟩
  · rw [e1]; exact I.base
  · rw [e1]; exact I.loc
  · rw [e1]; exact I.cell
  · rw [e1]; exact I.pin
  · rw [e1]; exact I.hok
/-- the yields -/
def gY (X' : Cx) (pins : List (Addr × Obj)) (fp : List Addr) (tn : Nat → Heap → Prop) (L : Nat) (W : Nat → L2.St → Hp → Prop) (Yd : Nat → V → L2.St → Hp → Prop) : Protocol := fun m _ v s kap =>
  ∃ i x σ H, m = L - i ∧ i < L ∧ RelV x v ∧ Inv X' pins σ H s ∧ Yd i x σ H ∧ (W (i + 1) σ H → ∀ s'' : Shared, s''.heap = s.heap → s''.os = s.os → AllBare s''.gens → kap (.send .none) s'')
def gR (X' : Cx) (pins : List (Addr × Obj)) (L : Nat) (W : Nat → L2.St → Hp → Prop) : GenEnd := fun _ _ r s1 => r = .ok .next ∧ ∃ σ H, Inv X' pins σ H s1 ∧ W L σ H
section
variable {X' : Cx} {A : Around} {pins : List (Addr × Obj)} {fp : List Addr} {tn : Nat → Heap → Prop} {L : Nat} {W : Nat → L2.St → Hp → Prop} {Yd : Nat → V → L2.St → Hp → Prop} {elt tg iter : Expr} {scope : Scope} {pos : Pos} {it : Addr} {J : It} {g : TG} {te : TE}
theorem seg_gen (hA : A.deeper X'.env = X'.A) (hc : X'.calm = true) (hco : X'.env.scope.isCoroutine = false) (T : Turn X'.prog X'.w X'.K tg J fp it tn) (hf : ∀ H : Hp, (∀ b ∈ fp, H b = none) → ∀ b ∈ fp, FpOk X' pins H b) (hg : PG X' tg g) (he : PE X' elt te) (hx : X'.xe = fun _ _ => False)
    (step : ∀ i σ H, W i σ H → i < L → J.go i H ∧ ∀ x H', J.yld i H x H' → g x σ H' fun σ5 H5 => te σ5 H5 fun y H6 => Yd i y σ5 H6) (stop : ∀ σ H, W L σ H → J.stop L H) :
    ∀ (k i : Nat) (s₀ s : Shared) (σ : L2.St) (H : Hp), L - i = k → i ≤ L → Inv X' pins σ H s → tn i s.heap → (∀ b ∈ fp, H b = none) → W i σ H →
      Seg (model X'.prog X'.w) A (gR X' pins L W) (gY X' pins fp tn L W Yd) (k + 1) s₀ (.compLoop (.GeneratorExp elt [⟨tg, iter, [], 0⟩] scope pos) 0 (.ref it) .none X'.env)
        ((model X'.prog X'.w).den (.compLoop (.GeneratorExp elt [⟨tg, iter, [], 0⟩] scope pos) 0 (.ref it) .none X'.env)) [] s := by
  intro k
  induction k with
  | zero =>
    intro i s₀ s σ H hk hi I st fr w0
    have e : i = L := by omega
    subst e
    show Seg _ A _ _ _ s₀ _ ((compTurn (.GeneratorExp elt [⟨tg, iter, [], 0⟩] scope pos) 0 (.ref it) .none X'.env).onRaise (leaving X'.env)) [] s
    rw [compTurn_gen, Sem.onRaise_eq_wrap]
    refine seg_bind_wrap (wpAny_standAt ?_)
    refine seg_bind_wrap ?_
    rw [over_loopG, hA]
    refine thn (T.done X' rfl rfl rfl hc i pins s σ H _ I (hf H fr) st (stop σ H w0)) fun r s1 ⟨hr, I1⟩ => ?_
    subst hr
    exact seg_end (.ok .next) ⟨rfl, σ, H, I1, w0⟩
  | succ k ih =>
    intro i s₀ s σ H hk hi I st fr w0
    have hlt : i < L := by omega
    obtain ⟨go, stp⟩ := step i σ H w0 hlt
    show Seg _ A _ _ _ s₀ _ ((compTurn (.GeneratorExp elt [⟨tg, iter, [], 0⟩] scope pos) 0 (.ref it) .none X'.env).onRaise (leaving X'.env)) [] s
    rw [compTurn_gen, Sem.onRaise_eq_wrap]
    refine seg_bind_wrap (wpAny_standAt ?_)
    refine seg_bind_wrap ?_
    rw [over_loopG, hA]
    refine thn (T.item X' rfl rfl rfl hc i pins s σ H _ I (hf H fr) st go) fun r s1 ⟨u, hr, h1⟩ => ?_
    subst hr
    refine seg_bind_wrap ?_
    rw [over_loopG, hA]
    refine thn h1 fun _ s2 ⟨x, H2, I2, r2, y2, st2, fr2⟩ => ?_
    have I2' := I2.pinned (hf H2 fr2) (T.obj _ _ st2)
    refine seg_bind_wrap ?_
    rw [over_loopG, hA]
    refine wpAny_mono (hg.run _ s2 σ H2 x u _ I2' r2 (stp x H2 y2)) (fun _ s3 ⟨σ3, H3, I3, q3⟩ => ?_) fun e s' z => by rw [hx] at z; exact z.elim
    refine seg_bind_wrap ?_
    simp only [List.forIn_nil]
    refine wpAny_pure ?_
    simp only [if_true]
    have hy : ∀ v, yieldOut X'.env v = yieldValue v := fun v => by simp only [yieldOut, hco, Bool.false_eq_true, if_false]
    simp only [hy]
    rw [Sem.bind_eq_wrap', Sem.bind_eq_wrap', Sem.wrap_wrap, Sem.wrap_wrap]
    refine seg_wrap ?_
    rw [over_loopG, hA]
    refine wpAny_mono (he.run _ s3 σ3 H3 _ I3 q3) (fun v s4 ⟨y, H4, I4, r4, q4⟩ => ?_) fun e s' z => by rw [hx] at z; exact z.elim
    have st4 : tn (i + 1) s4.heap := T.keep _ _ _ st2 fun b hb o e => (I4.pin (b, o) (List.mem_append_right _ (List.mem_append_right _ (mem_pinsAt hb e)))).1
    have fr4 : ∀ b ∈ fp, H4 b = none := fun b hb => by
      obtain ⟨o, e, d⟩ := T.obj _ _ st2 b hb
      exact (I4.pin (b, o) (List.mem_append_right _ (List.mem_append_right _ (mem_pinsAt hb e)))).2.1
    refine seg_at (seg_yield rfl rfl rfl ⟨i, y, σ3, H4, by omega, hlt, r4, I4.unpinned, q4, fun w4 s5 e1 e2 e3 => ?_⟩)
    exact seg_again rfl (ih (i + 1) s5 s5 σ3 H4 (by omega) hlt (inv_same I4.unpinned e1 e2 e3) (by rw [e1]; exact st4) fr4 w4)
theorem seg_gen0 (hA : A.deeper X'.env = X'.A) (hc : X'.calm = true) (hco : X'.env.scope.isCoroutine = false) (T : Turn X'.prog X'.w X'.K tg J fp it tn) (hf : ∀ H : Hp, (∀ b ∈ fp, H b = none) → ∀ b ∈ fp, FpOk X' pins H b) (hg : PG X' tg g) (he : PE X' elt te) (hx : X'.xe = fun _ _ => False)
    (step : ∀ i σ H, W i σ H → i < L → J.go i H ∧ ∀ x H', J.yld i H x H' → g x σ H' fun σ5 H5 => te σ5 H5 fun y H6 => Yd i y σ5 H6) (stop : ∀ σ H, W L σ H → J.stop L H)
    (s₀ s : Shared) (σ : L2.St) (H : Hp) (I : Inv X' pins σ H s) (st : tn 0 s.heap) (fr : ∀ b ∈ fp, H b = none) (w0 : W 0 σ H) :
      Seg (model X'.prog X'.w) A (gR X' pins L W) (gY X' pins fp tn L W Yd) (L + 1) s₀ (.compStart (.GeneratorExp elt [⟨tg, iter, [], 0⟩] scope pos) 0 (.ref it) .none X'.env)
        ((model X'.prog X'.w).den (.compStart (.GeneratorExp elt [⟨tg, iter, [], 0⟩] scope pos) 0 (.ref it) .none X'.env)) [] s := by
  have loop := seg_gen (iter := iter) (scope := scope) (pos := pos) hA hc hco T hf hg he hx step stop L 0 s₀ s σ H (Nat.sub_zero _) (Nat.zero_le _) I st fr w0
  show Seg _ A _ _ _ s₀ _ ((compStart (.GeneratorExp elt [⟨tg, iter, [], 0⟩] scope pos) 0 (.ref it) .none X'.env).onRaise (leaving X'.env)) [] s
  unfold compStart
  rw [Sem.onRaise_eq_wrap]
  show Seg _ A _ _ _ s₀ _ ((ask >>= _).wrap _ _ _ _) [] s
  refine seg_bind_wrap (wpAny_askSetting ?_)
  split
  · exact seg_again rfl loop
  · first
      | exact seg_bind_wrap (wpAny_rule (seg_bind_wrap (wpAny_standAt (seg_bind_wrap (T.self _ 0 s _ _ st (seg_again rfl loop))))))
      | (refine seg_bind_wrap (wpAny_rule ?_); show Seg _ A _ _ _ s₀ _ ((standAt iter.pos >>= _).wrap _ _ _ _) [] s; exact seg_bind_wrap (wpAny_standAt (seg_bind_wrap (T.self _ 0 s _ _ st (seg_again rfl loop)))))
/-! ### its turns -/
/-- where the generator stands after i turns -/
def GSt (P : Program) (w : World) (X' : Cx) (A2 : Around) (pins : List (Addr × Obj)) (fp : List Addr) (tn : Nat → Heap → Prop) (L : Nat) (W : Nat → L2.St → Hp → Prop) (Yd : Nat → V → L2.St → Hp → Prop) (g : Nat) (i : Nat) (s : Shared) : Prop :=
  ∃ gs, s.gens[g]? = some gs ∧ ∀ s'' : Shared, s''.heap = s.heap → s''.os = s.os → AllBare s''.gens → gs.Goes (model P w) A2 (gR X' pins L W) (gY X' pins fp tn L W Yd) (L - i + 1) (.send .none) s''
theorem bare_set {gens : Array GenState} {g : Nat} {x : GenState} (h : AllBare gens) (hx : x.bare = true) : AllBare (gens.setIfInBounds g x) := by
  intro y hy
  rcases Array.mem_or_eq_of_mem_setIfInBounds hy with z | z
  · exact h y z
  · rw [z]; exact hx
theorem gen_next {A : Around} {a : Addr} {gn : Nat} {i : Nat} {s : Shared} {σ : L2.St} {H : Hp} {o : Obj} {E : Value → Shared → Prop} {Q : Option Value → Shared → Prop} (hh : A.handled = none) (hroom : A.depth < recursionLimit) (I : Inv X' ((a, o) :: pins) σ H s) (ho : ∀ h : Heap, h.get? a = some o → h.IsGen a gn) (hi : i ≤ L)
    (G : GSt X'.prog X'.w X' A.in1 ((a, o) :: pins) fp tn L W Yd gn i s)
    (hY : ∀ v x σ' H' s', i < L → Inv X' ((a, o) :: pins) σ' H' s' → RelV x v → Yd i x σ' H' → (W (i + 1) σ' H' → GSt X'.prog X'.w X' A.in1 ((a, o) :: pins) fp tn L W Yd gn (i + 1) s') → Q (some v) s')
    (hD : ∀ σ' H' s', Inv X' ((a, o) :: pins) σ' H' s' → W L σ' H' → Q none s') : wpAny (model X'.prog X'.w) A (pyNext (.ref a)) Q E s := by
  obtain ⟨gs, hgs, go⟩ := G
  have hlt : gn < s.gens.size := by
    rcases Nat.lt_or_ge gn s.gens.size with h' | h'
    · exact h'
    · rw [Array.getElem?_eq_none h'] at hgs; cases hgs
  have ga : s.heap.IsGen a gn := ho _ (I.pin (a, o) (List.mem_append_right _ List.mem_cons_self)).1
  refine GenW.wpAny_gsz (n := gn + 1) hlt ?_
  refine wpAny_pyNext_genexpQ (P := fun _ _ s1 => ∃ σ H, Inv X' ((a, o) :: pins) σ H s1 ∧ W L σ H) hh I.nolimit hroom ga hgs (go _ rfl rfl (bare_set I.bare rfl)) (fun v s1 gs' hb hv => ?_) (fun s1 hp h' hk => ?_)
  · intro hsz
    have hsz : gn + 1 ≤ s1.gens.size := by
      have : (s1.setGen gn gs').gens.size = s1.gens.size := GenW.setGen_size s1 gn gs'
      omega
    obtain ⟨i', x, σ', H', hm, hi', rv, I1, q, kap⟩ := hv
    have e : i' = i := by omega
    subst e
    refine hY v x σ' H' _ hi' (inv_same I1 rfl rfl (bare_set I1.bare hb)) rv q fun w1 => ⟨gs', ?_, fun s'' e1 e2 e3 => ?_⟩
    · show (s1.gens.setIfInBounds gn gs')[gn]? = some gs'
      simp [show gn < s1.gens.size by omega]
    · have := kap w1 s'' e1 e2 e3
      rw [show L - (i' + 1) + 1 = L - i' by omega]
      exact this
  · intro _
    obtain ⟨σ', H', I1, w1⟩ := hp
    have I2 : Inv X' ((a, o) :: pins) σ' H' { s1 with heap := h' } := I1.kept (t' := s1.toks) hk
    exact hD σ' H' _ (inv_same I2 rfl rfl (bare_set I1.bare rfl)) w1
end
end Ab

namespace Ab
open PySem PySem.Spec PyProof.Rows L2
/-! ### all(..), any(..) over a generator -/
section
variable {X' : Cx} {A : Around} {pins : List (Addr × Obj)} {fp : List Addr} {tn : Nat → Heap → Prop} {L : Nat} {W : Nat → L2.St → Hp → Prop} {Yd : Nat → V → L2.St → Hp → Prop}
theorem all_loop {a : Addr} {gn : Nat} {o : Obj} {Fl : L2.St → Hp → Prop} {R : Result → Shared → Prop} (hh : A.handled = none) (hroom : A.depth < recursionLimit) (ho : ∀ h : Heap, h.get? a = some o → h.IsGen a gn)
    (hy : ∀ i x σ H, i < L → Yd i x σ H → ∃ b, x = .bl b ∧ if b = true then W (i + 1) σ H else Fl σ H)
    (hT : ∀ σ H s, Inv X' ((a, o) :: pins) σ H s → W L σ H → R (.ok (.ret (.bool true))) s) (hF : ∀ σ H s, Inv X' ((a, o) :: pins) σ H s → Fl σ H → R (.ok (.ret (.bool false))) s) :
    ∀ (k i : Nat) (s : Shared) (σ : L2.St) (H : Hp), L - i = k → i ≤ L → Inv X' ((a, o) :: pins) σ H s → GSt X'.prog X'.w X' A.in1.in1 ((a, o) :: pins) fp tn L W Yd gn i s →
      codeAny (model X'.prog X'.w) A (.builtin "all.loop" ⟨[.ref a], []⟩) R s := by
  intro k
  induction k with
  | zero =>
    intro i s σ H hk hi I G
    refine codeAny_builtin F.entry_all_loop ?_
    rw [Around.under_plainId F.plain_all_loop _]
    show wpAny _ A.in1 (pyNext (.ref a) >>= _) _ _ s
    refine wpAny_bind (gen_next (show A.in1.handled = none from hh) hroom I ho hi G (fun v x σ' H' s' h => by omega) fun σ' H' s' I1 w1 => ?_)
    exact wpAny_bind (wpAny_rule (wpAny_pure (hT _ _ _ I1 w1)))
  | succ k ih =>
    intro i s σ H hk hi I G
    refine codeAny_builtin F.entry_all_loop ?_
    rw [Around.under_plainId F.plain_all_loop _]
    show wpAny _ A.in1 (pyNext (.ref a) >>= _) _ _ s
    refine wpAny_bind (gen_next (show A.in1.handled = none from hh) hroom I ho hi G (fun v x σ' H' s' hlt I1 rv q G1 => ?_) fun σ' H' s' I1 w1 => ?_)
    · obtain ⟨b, rfl, q2⟩ := hy _ _ _ _ hlt q
      cases rv
      refine wpAny_bind (wpAny_holding (wpAny_truthy_bool ?_))
      refine wpAny_bind (wpAny_letGo ?_)
      cases b with
      | true =>
        simp only [if_true] at q2 ⊢
        exact wpAny_pure ⟨plainId_quiet F.plain_all_loop _, ih (i + 1) s' σ' H' (by omega) hlt I1 (G1 q2)⟩
      | false =>
        simp only [Bool.false_eq_true, if_false] at q2 ⊢
        exact wpAny_bind (wpAny_rule (wpAny_pure (hF _ _ _ I1 q2)))
    · exact wpAny_bind (wpAny_rule (wpAny_pure (hT _ _ _ I1 w1)))
theorem any_loop {a : Addr} {gn : Nat} {o : Obj} {Fl : L2.St → Hp → Prop} {R : Result → Shared → Prop} (hh : A.handled = none) (hroom : A.depth < recursionLimit) (ho : ∀ h : Heap, h.get? a = some o → h.IsGen a gn)
    (hy : ∀ i x σ H, i < L → Yd i x σ H → ∃ b, x = .bl b ∧ if b = false then W (i + 1) σ H else Fl σ H)
    (hT : ∀ σ H s, Inv X' ((a, o) :: pins) σ H s → W L σ H → R (.ok (.ret (.bool false))) s) (hF : ∀ σ H s, Inv X' ((a, o) :: pins) σ H s → Fl σ H → R (.ok (.ret (.bool true))) s) :
    ∀ (k i : Nat) (s : Shared) (σ : L2.St) (H : Hp), L - i = k → i ≤ L → Inv X' ((a, o) :: pins) σ H s → GSt X'.prog X'.w X' A.in1.in1 ((a, o) :: pins) fp tn L W Yd gn i s →
      codeAny (model X'.prog X'.w) A (.builtin "any.loop" ⟨[.ref a], []⟩) R s := by
  intro k
  induction k with
  | zero =>
    intro i s σ H hk hi I G
    refine codeAny_builtin F.entry_any_loop ?_
    rw [Around.under_plainId F.plain_any_loop _]
    show wpAny _ A.in1 (pyNext (.ref a) >>= _) _ _ s
    refine wpAny_bind (gen_next (show A.in1.handled = none from hh) hroom I ho hi G (fun v x σ' H' s' h => by omega) fun σ' H' s' I1 w1 => ?_)
    exact wpAny_bind (wpAny_rule (wpAny_pure (hT _ _ _ I1 w1)))
  | succ k ih =>
    intro i s σ H hk hi I G
    refine codeAny_builtin F.entry_any_loop ?_
    rw [Around.under_plainId F.plain_any_loop _]
    show wpAny _ A.in1 (pyNext (.ref a) >>= _) _ _ s
    refine wpAny_bind (gen_next (show A.in1.handled = none from hh) hroom I ho hi G (fun v x σ' H' s' hlt I1 rv q G1 => ?_) fun σ' H' s' I1 w1 => ?_)
    · obtain ⟨b, rfl, q2⟩ := hy _ _ _ _ hlt q
      cases rv
      refine wpAny_bind (wpAny_holding (wpAny_truthy_bool ?_))
      refine wpAny_bind (wpAny_letGo ?_)
      cases b with
      | false =>
        simp only [Bool.false_eq_true, if_true, if_false] at q2 ⊢
        exact wpAny_pure ⟨plainId_quiet F.plain_any_loop _, ih (i + 1) s' σ' H' (by omega) hlt I1 (G1 q2)⟩
      | true =>
        simp only [Bool.true_eq_false, if_true, if_false] at q2 ⊢
        exact wpAny_bind (wpAny_rule (wpAny_pure (hF _ _ _ I1 q2)))
    · exact wpAny_bind (wpAny_rule (wpAny_pure (hT _ _ _ I1 w1)))
end
/-- the scope of a generator expression, as it lies to the def's -/
structure GScope (No : List Str) (so scope : Scope) (own : List (Str × Nat)) : Prop where
  kind : scope.kind = .function
  co : scope.isCoroutine = false
  nocell : ∀ y ∈ scope.names, y.2 ≠ .cell
  dot : scope.names.lookup (".0" : Str) = some NameKind.local
  nodot : (".0" : Str) ∉ No
  free : ∀ y ∈ scope.names, y.2 = .free → so.names.lookup y.1 = some .cell ∨ so.names.lookup y.1 = some .free
  locs : ∀ y ∈ scope.names, y.2 = .local → y.1 = (".0" : Str) ∨ ∃ j, (y.1, j) ∈ own
  own_ : ∀ p ∈ own, No[p.2]? = some p.1
  nd : No.Nodup
def gscB (No : List Str) (so scope : Scope) (own : List (Str × Nat)) : Bool :=
  decide (scope.kind = .function) && !scope.isCoroutine && scope.names.all (fun y => !decide (y.2 = .cell)) && decide (scope.names.lookup (".0" : Str) = some NameKind.local) && !decide ((".0" : Str) ∈ No) &&
    scope.names.all (fun y => !decide (y.2 = .free) || decide (so.names.lookup y.1 = some .cell) || decide (so.names.lookup y.1 = some .free)) && scope.names.all (fun y => !decide (y.2 = .local) || decide (y.1 = (".0" : Str)) || own.any (fun p => decide (p.1 = y.1))) && own.all (fun p => decide (No[p.2]? = some p.1)) && decide No.Nodup
theorem gscope_by {No : List Str} {so scope : Scope} {own : List (Str × Nat)} (h : gscB No so scope own = true) : GScope No so scope own := by
  unfold gscB at h
  simp only [Bool.and_eq_true, Bool.not_eq_true', decide_eq_true_eq, List.all_eq_true, Bool.or_eq_true, decide_eq_false_iff_not, List.any_eq_true] at h
  obtain ⟨⟨⟨⟨⟨⟨⟨⟨h1, h2⟩, h3⟩, h4⟩, h5⟩, h6⟩, h7⟩, h8⟩, h9⟩ := h
  refine ⟨h1, h2, h3, h4, h5, fun y hy e => ?_, fun y hy e => ?_, h8, h9⟩
  · rcases h6 y hy with (z | z) | z
    · exact absurd e z
    · exact .inl z
    · exact .inr z
  · rcases h7 y hy with (z | z) | ⟨p, hp, z⟩
    · exact absurd e z
    · exact .inl z
    · exact .inr ⟨p.2, by rw [← z]; exact hp⟩
section
variable {X : Cx} {pins : List (Addr × Obj)} {σ : L2.St} {H : Hp} {s : Shared}
/-- its code object: new, or found in the table -/
theorem gen_code {c P : Addr} {scope : Scope} {pos : Pos} {E : Value → Shared → Prop} {Q : Value → Shared → Prop} (I : Inv X pins σ H s) (TB : LamX.TabB X.base X.mg c P) (hc : X.env.code = .ref c) (hT : LamX.TabS H P (X.env.qual ++ "<genexpr>"))
    (h : ∀ (code : Value) (H1 : Hp) (s' : Shared), Inv X pins σ H1 s' → (∀ b o, b ≠ P → H b = some o → H1 b = some o) → (∀ b, b < s.heap.objs.size → H b = none → H1 b = none) → s.heap.objs.size ≤ s'.heap.objs.size → (∀ b o, b ≠ P → s.heap.get? b = some o → s'.heap.get? b = some o) → LamX.TabS H1 P (X.env.qual ++ "<genexpr>") → s'.gens = s.gens → Q code s') :
    wpAny (model X.prog X.w) X.A (genexprCode X.env pos (X.env.qual ++ "<genexpr>") scope) Q E s := by
  obtain ⟨ts, hP, ok3, codes⟩ := hT
  have stand := I.hok P _ hP
  have cd : PySem.W.CodeHd s.heap c P := TB.code.keeps I.bk
  cases found : codeAmong pos ts.toList with
  | some cv =>
    refine wpAny_genexprCode_hit hc (cd.code stand ok3) found ?_
    exact h cv H s I (fun b o _ e => e) (fun b _ e => e) (Nat.le_refl _) (fun b o _ e => e) ⟨ts, hP, ok3, codes⟩ rfl
  | none =>
    refine wpAny_genexprCodeX hc (cd.code stand ok3) (cd.tab stand) found fun c' h' tk up c0 c1 _ cr tab' _ => ?_
    obtain ⟨cc, oc, us, tq, ecc, g1, g2, g3⟩ := cr
    cases ecc
    have un : H c' = none := I.hok.fresh c0
    have J := LamX.inv_table (t' := tk) (more := #[rawInt pos.line, rawInt pos.col, .ref c']) (h' := h') I hP (fun b o nb e => up b o nb e) tab'.2 c0 ⟨oc, us, tq, g1, g2, g3⟩
    have rest : ∀ b o, b ≠ P → H b = some o → (upd (upd H P (.tbl (ts ++ #[rawInt pos.line, rawInt pos.col, .ref c']))) c' (LamX.CodeO c' (X.env.qual ++ "<genexpr>"))) b = some o := fun b o nb e => by
      rw [upd_ne (ne_of_none e un), upd_ne nb]
      exact e
    refine h _ _ _ J rest (fun b hb e => ?_) (Nat.le_trans c0 (Nat.le_of_lt c1)) (fun b o nb e => up b o nb e) ⟨_, by rw [upd_ne (ne_of_none hP un), upd_same], by rw [Array.toList_append]; exact PySem.TriplesOk_snoc _ _ _ _ ok3, fun p' cv hcv => ?_⟩ rfl
    · rw [upd_ne (Nat.ne_of_lt (Nat.lt_of_lt_of_le hb c0)), upd_ne fun z => by rw [z, hP] at e; cases e]
      exact e
    · rw [Array.toList_append] at hcv
      rcases LamX.among_app _ ok3 hcv with z | z
      · obtain ⟨c2, e1, e2⟩ := codes p' cv z
        refine ⟨c2, e1, rest c2 _ (fun q => ?_) e2⟩
        rw [q, hP] at e2
        exact LamX.codeO_ne _ (Option.some.inj e2).symm
      · exact ⟨_, z, upd_same⟩
/-- the generator is made -/
theorem gen_made {c P : Addr} {elt tg iter : Expr} {scope : Scope} {gpos : Pos} {own : List (Str × Nat)} {wi : TI} {R : It → Hp → Prop} {Q' : Value → Shared → Prop} (hroom : X.A.depth < recursionLimit) (hh : X.A.handled = none) (TB : LamX.TabB X.base X.mg c P) (hcode : X.env.code = .ref c) (S : GScope X.N X.env.scope scope own) (hi : PI X tg iter wi)
    (hs : ∀ x, genFold iter X.env x = pure x) (I : Inv X pins σ H s) (h : wi σ H fun J H1 => LamX.TabS H1 P (X.env.qual ++ "<genexpr>") ∧ ∀ H2, LamX.TabS H2 P (X.env.qual ++ "<genexpr>") → (∀ b o, b ≠ P → H1 b = some o → H2 b = some o) → R J H2)
    (hQ : ∀ (J : It) (H2 : Hp) (s4 s5 : Shared) (cl : List (Str × Addr)) (code : Value) (fp : List Addr) (it a : Addr) (gn : Nat) (o : Obj) (tn : Nat → Heap → Prop), Inv X pins σ H2 s4 → Inv (gxx X s4 H2 scope cl code fp) [(a, o)] (wipe σ (own.map (·.2))) H2 s5 → Turn X.prog X.w X.K tg J fp it tn → tn 0 s5.heap → (∀ b ∈ fp, FpOk X pins H2 b) →
      (∀ H' : Hp, (∀ b ∈ fp, H' b = none) → ∀ b ∈ fp, FpOk (gxx X s4 H2 scope cl code fp) [(a, o)] H' b) → (∀ h : Heap, h.get? a = some o → h.IsGen a gn) → s5.gens[gn]? = some (.fresh (.compStart (.GeneratorExp elt [⟨tg, iter, [], 0⟩] scope gpos) 0 (.ref it) .none (gxx X s4 H2 scope cl code fp).env)) → s5.heap.get? a = some o → R J H2 → Q' (.ref a) s5) :
    wpAny (model X.prog X.w) X.A (eval (.GeneratorExp elt [⟨tg, iter, [], 0⟩] scope gpos) X.env) Q' X.xe s := by
  have hfree : ∀ y ∈ scope.names, y.2 = .free → ∃ c, X.env.cells.lookup y.1 = some c := fun y hy e => (S.free y hy e).elim (fun z => I.ok.has _ (.inl z)) fun z => I.ok.has _ (.inr z)
  refine wpAny_GeneratorExp_make S.co (L2.closure_ok hfree) S.nocell S.dot S.kind hroom ?_ hs
  refine thn (hi.run pins s σ H _ I h) fun xv s1 h1 => thn h1 fun itv s2 h2 => ?_
  obtain ⟨it, fp, tn, J, H1, e, I2, T, st2, f2, ht, q⟩ := h2
  subst e
  refine ⟨I2.nolimit, ?_⟩
  refine gen_code I2 TB hcode ht fun code H2 s3 I3 grow frk sz up t3 ge => ?_
  obtain ⟨bm, ob, e1, e2, e3, e4, e5, e6, e7, e8⟩ := (TB.bm.keeps I3.bk : s3.heap.BuiltinsAt X.mg P)
  refine wpAny_builtinsFor (m := X.mg) (by rw [I3.ok.glob]; exact I3.mod.glob.keeps I3.bk) e1 e2 e5 e6 e7 e8 ?_
  intro h' hn' hs'
  obtain ⟨ts, hP1, _⟩ := ht
  have fpl : ∀ b ∈ fp, b < s2.heap.objs.size := fun b hb => by
    obtain ⟨o, ho, _⟩ := T.obj _ _ st2 b hb
    exact Heap.lt_size ho
  have f3 : ∀ b ∈ fp, FpOk X pins H2 b := fun b hb => ⟨frk b (fpl b hb) (f2 b hb).1, (f2 b hb).2⟩
  have fpP : ∀ b ∈ fp, b ≠ P := fun b hb z => by
    have := (f2 b hb).1
    rw [z, hP1] at this
    cases this
  have hsz : h'.objs.size = s3.heap.objs.size + 1 := by rw [hs'.1, Heap.size_push]
  have keep' : ∀ b o, s3.heap.get? b = some o → h'.get? b = some o := fun b o e => hs'.extBut b o (Nat.ne_of_lt (Heap.lt_size e)) (Heap.get?_push_of_some _ e)
  have cm : ∀ {z : Str} {a : Addr}, (cloFrom X.env.cells scope.names []).lookup z = some a → X.env.cells.lookup z = some a := fun {z a} h => NdefX.clo_cm hfree h
  have late : ∀ b, s3.heap.objs.size ≤ b → b ∉ frs X.stack := fun b hb z => by
    rcases List.mem_cons.mp (I3.stkSub b z) with z | z
    · have := I3.lt
      rw [← z] at this
      exact absurd (Nat.lt_of_lt_of_le this hb) (Nat.lt_irrefl _)
    · exact I3.nofs hb z
  have fps : ∀ b ∈ fp, b ∉ frs X.stack := fun b hb z => by
    rcases List.mem_cons.mp (I3.stkSub b z) with z | z
    · exact (f3 b hb).2.1 z
    · exact (f3 b hb).2.2.1 z
  have fpn : ∀ b ∈ fp, b ≠ s3.heap.objs.size := fun b hb => Nat.ne_of_lt (Nat.lt_of_lt_of_le (fpl b hb) sz)
  have fpc : ∀ b ∈ fp, ∀ x c, (cloFrom X.env.cells scope.names []).lookup x = some c → c ≠ b := fun b hb x c e => (f3 b hb).2.2.2.2.1 x c (cm e)
  have wiped : ∀ {i : Nat} {v : V}, (wipe σ (own.map (·.2)))[i]? = some (some v) → i ∉ own.map (·.2) := fun {i v} e hi => by
    rw [wipe_in _ hi] at e
    split at e <;> cases e
  refine hQ J H2 s3 _ (cloFrom X.env.cells scope.names []) code fp it h'.objs.size s3.gens.size _ tn I3 ?_ T (T.keep _ _ _ st2 fun b hb o e => Heap.get?_push_of_some _ (keep' b o (up b o (fpP b hb) e))) f3 (fun H' hn b hb => ⟨hn b hb, fpn b hb, fps b hb, .inl hb, fpc b hb, fun p hp => ?_⟩) (fun h5 e => ⟨_, _, _, e, rfl, rfl, rfl⟩) (Array.getElem?_push_size ..) (Heap.get?_push_size _ rfl) (q H2 t3 grow)
  · have kp : ∀ b o, s3.heap.get? b = some o → (h'.push { cls := .type "generator", data := .fields #[.int s3.gens.size 0, .str "<genexpr>" (s3.toks + 1), .str (X.env.qual ++ "<genexpr>") (s3.toks + 1 + 1)] }).get? b = some o := fun b o e => Heap.get?_push_of_some _ (keep' b o e)
    refine ⟨⟨I3.ok.mod, S.kind, I3.ok.glob, rfl, Nat.le_refl _, fun x y c h1 h2 => I3.ok.inj x y c (cm h1) (cm h2), fun y hy => ?_, fun y c z _ => ?_, fun _ => hh, Around.frames_deeper I3.ok.frames, .inr ⟨rfl, rfl⟩, fun b hb => ⟨fpn b hb, fpc b hb⟩, I3.bs, Nat.le_trans I3.ok.bsz I3.sz, fun b o e hb => ?_, fps, I3.stack, I3.stkFree⟩,
      rfl, ?_, Un.kept kp, ⟨_, hn'.push _, fun i y v g1 g2 g3 => ?_⟩, fun y c e => ?_, I3.hok.fresh (Nat.le_refl _), fun y c e => I3.freeC y c (cm e), fun p hp => ?_, I3.hok.kept kp, ?_⟩
    · have hy : scope.names.lookup y = some .cell ∨ scope.names.lookup y = some .free := hy
      rcases hy with hy | hy
      · exact absurd rfl (S.nocell _ (PySem.mem_of_lookup hy))
      · obtain ⟨c, hc⟩ := hfree _ (PySem.mem_of_lookup hy) rfl
        exact ⟨c, NdefX.clo_has hfree (PySem.mem_of_lookup hy) hc⟩
    · have z : false = true := z
      cases z
    · rcases (f3 b hb).2.2.2.1 with z | z
      · exact I3.ok.noex b o e z
      · exact absurd (Nat.lt_of_lt_of_le (Heap.lt_size e) (Nat.le_trans I3.ok.bsz z)) (Nat.lt_irrefl _)
    · exact I3.bare.push rfl
    · have g1 : X.N[i]? = some y := g1
      have ni := wiped g2
      rw [wipe_out ni] at g2
      have g3 : scope.names.lookup y = some .local ∨ scope.names.lookup y = some .cell ∨ scope.names.lookup y = some .free := g3
      rcases g3 with g3 | g3 | g3
      · exfalso
        rcases S.locs _ (PySem.mem_of_lookup g3) rfl with z | ⟨j, hj⟩
        · exact S.nodot (by rw [← show y = ".0" from z]; exact List.mem_of_getElem? g1)
        · have e9 := S.own_ _ hj
          have ii : i = j := by
            have l1 := (List.getElem?_eq_some_iff.mp g1).1
            exact (List.getElem?_inj l1 S.nd).mp (g1.trans (show X.N[j]? = some y from e9).symm)
          exact ni (List.mem_map.mpr ⟨(y, j), hj, ii.symm⟩)
      · exact absurd rfl (S.nocell _ (PySem.mem_of_lookup g3))
      · obtain ⟨m, _, look⟩ := I3.loc
        have ok := S.free _ (PySem.mem_of_lookup g3) rfl
        obtain ⟨u, rv, lk⟩ := look i y v g1 g2 (.inr ok)
        refine ⟨u, rv, .inr ⟨.inr g3, ?_⟩⟩
        rcases lk with ⟨k, _⟩ | ⟨_, c, hc, hcell⟩
        · have k : X.env.scope.names.lookup y = some .local := k
          rcases ok with z | z
          · rw [show X.env.scope.names.lookup y = some .cell from z] at k; cases k
          · rw [show X.env.scope.names.lookup y = some .free from z] at k; cases k
        · obtain ⟨oc, hoc, hd⟩ := hcell
          exact ⟨c, NdefX.clo_has hfree (PySem.mem_of_lookup g3) hc, oc, kp _ _ hoc, hd⟩
    · obtain ⟨v, oc, hoc, hd⟩ := I3.cell y c (cm e)
      exact ⟨v, oc, kp _ _ hoc, hd⟩
    · rcases List.mem_append.mp hp with hp | hp
      · exact absurd (show p ∈ ([] : List (Addr × Obj)) from hp) (by simp)
      · rw [List.mem_singleton.mp hp]
        refine ⟨Heap.get?_push_size _ rfl, I3.hok.fresh (by show s3.heap.objs.size ≤ h'.objs.size; omega), ?_, late _ (by show s3.heap.objs.size ≤ h'.objs.size; omega), fun v z => by cases z⟩
        show h'.objs.size ≠ s3.heap.objs.size
        omega
    · rw [wipe_length]
      exact I3.len
  · rcases List.mem_append.mp hp with hp | hp
    · exact absurd (show p ∈ ([] : List (Addr × Obj)) from hp) (by simp)
    · rw [List.mem_singleton.mp hp]
      intro z
      have z : h'.objs.size = b := z
      have h1 : b < s3.heap.objs.size := Nat.lt_of_lt_of_le (fpl b hb) sz
      rw [← z, hsz] at h1
      exact absurd h1 (Nat.not_lt.mpr (Nat.le_succ _))
/-- the def goes on -/
theorem gen_out {s4 s' : Shared} {H2 H' : Hp} {σ' : L2.St} {scope : Scope} {cl : List (Str × Addr)} {code : Value} {fp : List Addr} {pl : List (Addr × Obj)} (I4 : Inv X pins σ H2 s4) (f : ∀ b ∈ fp, FpOk X pins H2 b) (I' : Inv (gxx X s4 H2 scope cl code fp) pl σ' H' s') : Inv X pins σ H' s' := by
  have J := I4.call (h' := s'.heap) (g' := s'.gens) (t' := s'.toks) (d' := s'.drawn) I'.base I'.hok I'.bare fun b hb => ⟨(f b hb).2.2.2.1, (f b hb).2.1, (f b hb).2.2.2.2.1, (f b hb).2.2.2.2.2⟩
  have e : ({ s4 with heap := s'.heap, gens := s'.gens, drawn := s'.drawn, toks := s'.toks } : Shared) = s' := GxR.sh_eta s4 s' I'.os
  rw [e] at J
  exact J
/-- all(e for x in it), any(..): dir tells which -/
def tAllG (P : Addr) (q : Str) (wi : TI) (g : TG) (te : TE) (vs : List Nat) (dir : Bool) : TE := fun σ H Q => wi σ H fun J H1 => LamX.TabS H1 P q ∧ ∀ H2, LamX.TabS H2 P q → (∀ b o, b ≠ P → H1 b = some o → H2 b = some o) → ∃ (L : Nat) (W : Nat → L2.St → Hp → Prop), W 0 (wipe σ vs) H2 ∧
  (∀ i σ3 H3, W i σ3 H3 → i < L → J.go i H3 ∧ ∀ x H4, J.yld i H3 x H4 → g x σ3 H4 fun σ5 H5 => te σ5 H5 fun y H6 => ∃ b, y = .bl b ∧ if b = dir then W (i + 1) σ5 H6 else Q (.bl (!dir)) H6) ∧
  ∀ σ3 H3, W L σ3 H3 → J.stop L H3 ∧ Q (.bl dir) H3
theorem pe_allG {c P : Addr} {elt tg iter : Expr} {scope : Scope} {gpos p pos : Pos} {own : List (Str × Nat)} {wi : TI} {g : TG} {te : TE} {k : Nat} (hr : Room k X.A) (hg : Gl X "all") (hm : X.mg "all" = none) (hb : bootBuiltins "all" = some (.builtin "all")) (TB : LamX.TabB X.base X.mg c P) (hcode : X.env.code = .ref c) (S : GScope X.N X.env.scope scope own) (hi : PI X tg iter wi)
    (hpg : ∀ (s4 : Shared) (H2 : Hp) (cl : List (Str × Addr)) (code : Value) (fp : List Addr), PG (gxx X s4 H2 scope cl code fp) tg g) (hpe : ∀ (s4 : Shared) (H2 : Hp) (cl : List (Str × Addr)) (code : Value) (fp : List Addr), PE (gxx X s4 H2 scope cl code fp) elt te) (hs : ∀ x, genFold iter X.env x = pure x)
    (he : starEach [.GeneratorExp elt [⟨tg, iter, [], 0⟩] scope gpos] X.env = (false, eval (.GeneratorExp elt [⟨tg, iter, [], 0⟩] scope gpos) X.env) :: starEach [] X.env) :
    PE X (.Call (.Name "all" p) [.GeneratorExp elt [⟨tg, iter, [], 0⟩] scope gpos] [] pos) (tAllG P (X.env.qual ++ "<genexpr>") wi g te (own.map (·.2)) true) := by
  refine ⟨fun pins s σ H Q I h => ?_⟩
  refine wpAny_Call_Name_kw (ld_blt I hg hm hb ?_)
  refine PyProof.Rows.callWith_builtin1 ?_ he (by rfl)
  rw [he]
  show wpAny _ _ (spliced ((false, eval (.GeneratorExp elt [⟨tg, iter, [], 0⟩] scope gpos) X.env) :: backTo pos (starEach [] X.env))) _ _ s
  refine Calls.spliced_cons (gen_made hr.depth hr.hd TB hcode S hi hs I h fun J H2 s4 s5 cl code fp it a gn o tn I4 I5 T st5 f4 f5 hga hgs hao q => ?_)
  obtain ⟨L, W, w0, step, stop⟩ := q
  refine Calls.spliced_nil ?_
  refine call_function_tree F.kind_all F.plain_all F.entry_all (F.args_all1 _) ?_
  unfold Builtin.«all»
  refine wpAny_bind (m := oneArg "all" _) (wpAny_pure ?_)
  refine wpAny_bind (wpAny_pyIter_gen (hga _ hao) ?_)
  refine wpAny_pure ⟨plainId_quiet F.plain_all_loop _, ?_⟩
  refine all_loop (X' := gxx X s4 H2 scope cl code fp) (A := X.A) (fp := fp) (tn := tn) (L := L) (W := W) (pins := []) (Yd := fun i y σ3 H3 => ∃ b, y = .bl b ∧ if b = true then W (i + 1) σ3 H3 else Q (.bl (!true)) H3) (Fl := fun _ H3 => Q (.bl (!true)) H3) hr.hd hr.depth hga (fun i x σ3 H3 _ z => z) (fun σ3 H3 s6 I6 w6 => ⟨.bl true, H3, gen_out I4 f4 I6, rfl, (stop σ3 H3 w6).2⟩) (fun σ3 H3 s6 I6 w6 => ⟨.bl false, H3, gen_out I4 f4 I6, rfl, w6⟩) L 0 s5 _ H2 (Nat.sub_zero _) (Nat.zero_le _) I5 ⟨_, hgs, fun s6 e1 e2 e3 => ⟨rfl, ?_⟩⟩
  rw [Nat.sub_zero]
  exact seg_gen0 (X' := gxx X s4 H2 scope cl code fp) (A := X.A.in1.in1) rfl rfl S.co T f5 (hpg s4 H2 cl code fp) (hpe s4 H2 cl code fp) rfl (fun i σ3 H3 w3 hlt => step i σ3 H3 w3 hlt) (fun σ3 H3 w3 => (stop σ3 H3 w3).1) s6 s6 _ H2 (inv_same I5 e1 e2 e3) (by rw [e1]; exact st5) (fun b hb => (f4 b hb).1) w0
theorem pe_anyG {c P : Addr} {elt tg iter : Expr} {scope : Scope} {gpos p pos : Pos} {own : List (Str × Nat)} {wi : TI} {g : TG} {te : TE} {k : Nat} (hr : Room k X.A) (hg : Gl X "any") (hm : X.mg "any" = none) (hb : bootBuiltins "any" = some (.builtin "any")) (TB : LamX.TabB X.base X.mg c P) (hcode : X.env.code = .ref c) (S : GScope X.N X.env.scope scope own) (hi : PI X tg iter wi)
    (hpg : ∀ (s4 : Shared) (H2 : Hp) (cl : List (Str × Addr)) (code : Value) (fp : List Addr), PG (gxx X s4 H2 scope cl code fp) tg g) (hpe : ∀ (s4 : Shared) (H2 : Hp) (cl : List (Str × Addr)) (code : Value) (fp : List Addr), PE (gxx X s4 H2 scope cl code fp) elt te) (hs : ∀ x, genFold iter X.env x = pure x)
    (he : starEach [.GeneratorExp elt [⟨tg, iter, [], 0⟩] scope gpos] X.env = (false, eval (.GeneratorExp elt [⟨tg, iter, [], 0⟩] scope gpos) X.env) :: starEach [] X.env) :
    PE X (.Call (.Name "any" p) [.GeneratorExp elt [⟨tg, iter, [], 0⟩] scope gpos] [] pos) (tAllG P (X.env.qual ++ "<genexpr>") wi g te (own.map (·.2)) false) := by
  refine ⟨fun pins s σ H Q I h => ?_⟩
  refine wpAny_Call_Name_kw (ld_blt I hg hm hb ?_)
  refine PyProof.Rows.callWith_builtin1 ?_ he (by rfl)
  rw [he]
  show wpAny _ _ (spliced ((false, eval (.GeneratorExp elt [⟨tg, iter, [], 0⟩] scope gpos) X.env) :: backTo pos (starEach [] X.env))) _ _ s
  refine Calls.spliced_cons (gen_made hr.depth hr.hd TB hcode S hi hs I h fun J H2 s4 s5 cl code fp it a gn o tn I4 I5 T st5 f4 f5 hga hgs hao q => ?_)
  obtain ⟨L, W, w0, step, stop⟩ := q
  refine Calls.spliced_nil ?_
  refine call_function_tree F.kind_any F.plain_any F.entry_any (F.args_any1 _) ?_
  unfold Builtin.«any»
  refine wpAny_bind (m := oneArg "any" _) (wpAny_pure ?_)
  refine wpAny_bind (wpAny_pyIter_gen (hga _ hao) ?_)
  refine wpAny_pure ⟨plainId_quiet F.plain_any_loop _, ?_⟩
  refine any_loop (X' := gxx X s4 H2 scope cl code fp) (A := X.A) (fp := fp) (tn := tn) (L := L) (W := W) (pins := []) (Yd := fun i y σ3 H3 => ∃ b, y = .bl b ∧ if b = false then W (i + 1) σ3 H3 else Q (.bl (!false)) H3) (Fl := fun _ H3 => Q (.bl (!false)) H3) hr.hd hr.depth hga (fun i x σ3 H3 _ z => z) (fun σ3 H3 s6 I6 w6 => ⟨.bl false, H3, gen_out I4 f4 I6, rfl, (stop σ3 H3 w6).2⟩) (fun σ3 H3 s6 I6 w6 => ⟨.bl true, H3, gen_out I4 f4 I6, rfl, w6⟩) L 0 s5 _ H2 (Nat.sub_zero _) (Nat.zero_le _) I5 ⟨_, hgs, fun s6 e1 e2 e3 => ⟨rfl, ?_⟩⟩
  rw [Nat.sub_zero]
  exact seg_gen0 (X' := gxx X s4 H2 scope cl code fp) (A := X.A.in1.in1) rfl rfl S.co T f5 (hpg s4 H2 cl code fp) (hpe s4 H2 cl code fp) rfl (fun i σ3 H3 w3 hlt => step i σ3 H3 w3 hlt) (fun σ3 H3 w3 => (stop σ3 H3 w3).1) s6 s6 _ H2 (inv_same I5 e1 e2 e3) (by rw [e1]; exact st5) (fun b hb => (f4 b hb).1) w0
end
end Ab

namespace Ab
open PySem PySem.Spec PyProof.Rows L2
/-! ### all(e for x in it), any(..), over data -/
def resB : Bool → List PyData → (PyData → Bool) → Bool
  | true, l, p => l.all p
  | false, l, p => l.any p
theorem resB_t {l : List PyData} {p : PyData → Bool} : resB true l p = l.all p := rfl
theorem resB_f {l : List PyData} {p : PyData → Bool} : resB false l p = l.any p := rfl
theorem resB_yes {dir : Bool} {l : List PyData} {p : PyData → Bool} (h : ∀ (j : Nat) e, l[j]? = some e → p e = dir) : resB dir l p = dir := by
  cases dir with
  | true =>
    rw [resB_t, List.all_eq_true]
    intro x hx
    obtain ⟨i, hi, e⟩ := List.getElem_of_mem hx
    exact h i x (List.getElem?_eq_some_iff.mpr ⟨hi, e⟩)
  | false =>
    rw [resB_f, List.any_eq_false]
    intro x hx
    obtain ⟨i, hi, e⟩ := List.getElem_of_mem hx
    rw [h i x (List.getElem?_eq_some_iff.mpr ⟨hi, e⟩)]
    exact Bool.false_ne_true
theorem resB_no {dir : Bool} {l : List PyData} {p : PyData → Bool} {i : Nat} {d : PyData} (h : l[i]? = some d) (hp : p d ≠ dir) : resB dir l p = !dir := by
  have hm := List.mem_of_getElem? h
  cases dir with
  | true =>
    rw [resB_t]
    have : p d = false := by simpa using hp
    cases e : l.all p with
    | false => rfl
    | true => rw [List.all_eq_true] at e; rw [e d hm] at this; cases this
  | false =>
    rw [resB_f]
    have : p d = true := by simpa using hp
    exact List.any_eq_true.mpr ⟨d, hm, this⟩
def aAllG (dir : Bool) (I : XI) (t : Tgt) (E : XE) (vs : List Nat) : XE := fun Γ P => I Γ fun items _ => ∃ p : PyData → Bool,
  (∀ (i : Nat) d, items[i]? = some d → (∀ (j : Nat) e, j < i → items[j]? = some e → p e = dir) → ∃ Γ2, t.go d (wipeG Γ vs) = some Γ2 ∧ E Γ2 fun r => r = .dat (.bool (p d))) ∧ P (.dat (.bool (resB dir items p)))
section
variable {X : Cx} {c : Ctx}
theorem allG_imp {dir : Bool} {I : XI} {t : Tgt} {E : XE} {vs : List Nat} {Pt : Addr} {q : Str} (hJ : ∀ H, c.J H → LamX.TabS H Pt q) (hJ2 : ∀ H H1, c.J H → LamX.TabS H1 Pt q → (∀ b o, b ≠ Pt → H b = some o → H1 b = some o) → c.J H1) (hPt : Pt ∈ c.S) (ht : ∀ j ∈ t.slots, j ∈ vs) (σ : L2.St) (H : Hp) (Q : VK) (h : gE c (aAllG dir I t E vs) σ H Q) :
    tAllG Pt q (gI c I) (t.tg c.K) (gE c E) vs dir σ H Q := by
  obtain ⟨Γ, P, at_, p0, k⟩ := h
  refine ⟨Γ, _, at_, p0, fun J H1 items gh Z f1 at1 z1 zs _ yl ⟨p, step, fin⟩ => ⟨hJ H1 at1.J, fun H2 t2 grow => ?_⟩⟩
  have fx2 : Fx c.S H1 H2 := ⟨fun a o na e => grow a o (fun z => na (by rw [z]; exact hPt)) e, fun a xs r => by
    have nP : ∀ {o}, H1 a = some o → (∀ ps, o ≠ .tbl ps) → a ≠ Pt := fun {o} e q z => by
      obtain ⟨ts, hP, _⟩ := hJ H1 at1.J
      rw [z, hP] at e
      exact q ts (Option.some.inj e).symm
    rcases r with r | ⟨o, r⟩
    · exact .inl (grow a _ (nP r fun _ z => by cases z) r)
    · exact .inr ⟨o, grow a _ (nP r fun _ z => by cases z) r⟩⟩
  have at2 := at1.grow fx2 (hJ2 H1 H2 at1.J t2 grow)
  have z2 : Z H2 := zs _ _ z1 fx2.tup fun a o n _ e => fx2.keep a o n e
  refine ⟨items.length, fun i σ3 H3 => i ≤ items.length ∧ wipe σ3 vs = wipe σ vs ∧ σ3.length = σ.length ∧ At c σ H3 Γ ∧ Z H3 ∧ Fx c.S H1 H3 ∧ ∀ (j : Nat) e, j < i → items[j]? = some e → p e = dir, ⟨Nat.zero_le _, wipe_wipe σ vs, wipe_length .., at2, z2, fx2, fun j e h => by omega⟩, ?_, ?_⟩
  · rintro i σ3 H3 ⟨hi, w3, l3, at3, z3, fx3, hj⟩ hlt
    refine ⟨yl.go i H3 z3 hlt, fun x H4 hy => ?_⟩
    obtain ⟨f4, z4, d, hd, dp4, id4⟩ := yl.yld i H3 x H4 z3 hlt hy
    obtain ⟨Γ2, et, q2⟩ := step i d hd hj
    have at4 := at3.ext f4
    have atw : At c (σ3 ++ []) H4 (wipeG Γ vs ++ []) := by
      rw [List.append_nil, List.append_nil]
      refine (at4.wipe vs).sub (by rw [wipeG_len, l3]; exact at_.len) fun i g e => ⟨e, ?_⟩
      have ni := (wipeG_some e).2
      rw [← w3, wipe_out ni]
    refine tgt_run (τ := []) (Δ := []) dp4 id4 (by rw [wipeG_len, l3]; exact at_.len) atw et fun σ5 hl5 at5 w5 => ?_
    rw [List.append_nil, List.append_nil] at at5
    refine ⟨Γ2, _, at5, q2, fun y H6 r6 f6 at6 r6' e => ?_⟩
    subst e
    cases r6'.ro.bl
    have at7 := at4.grow f6 at6.J
    have z6 : Z H6 := zs _ _ z4 f6.tup fun a o n _ e => f6.keep a o n e
    have fx6 : Fx c.S H1 H6 := fx3.trans (f4.nil.trans f6)
    refine ⟨p d, rfl, ?_⟩
    by_cases hp : p d = dir
    · rw [if_pos hp]
      refine ⟨by omega, (w5 vs ht).trans w3, ?_, at7, z6, fx6, fun j e hjl he => ?_⟩
      · have e1 := congrArg List.length ((w5 vs ht).trans w3)
        rw [wipe_length, wipe_length] at e1
        exact e1
      · by_cases hji : j = i
        · subst hji
          rw [hd] at he
          cases he
          exact hp
        · exact hj j e (by omega) he
    · rw [if_neg hp]
      exact k (.bl (!dir)) H6 _ (f1.trans fx6) at7 (rr_bl _) (by rw [← resB_no hd hp]; exact fin)
  · rintro σ3 H3 ⟨_, w3, l3, at3, z3, fx3, hj⟩
    refine ⟨yl.stop _ H3 z3 (Nat.le_refl _), k (.bl dir) H3 _ (f1.trans fx3) at3 (rr_bl _) ?_⟩
    have := fin
    rw [resB_yes (fun j e he => hj j e (List.getElem?_eq_some_iff.mp he).1 he)] at this
    exact this
theorem ae_all {cc Pt : Addr} {elt tg iter : Expr} {scope : Scope} {gpos p pos : Pos} {own : List (Str × Nat)} {I : XI} {t : Tgt} {E : XE} {k : Nat} {No : List Str} {sc : Scope} (hr : Room k X.A) (hg : Gl X "all") (hm : X.mg "all" = none) (hb : bootBuiltins "all" = some (.builtin "all")) (TB : LamX.TabB X.base X.mg cc Pt) (hcode : X.env.code = .ref cc)
    (hJ : ∀ H, c.J H → LamX.TabS H Pt (X.env.qual ++ "<genexpr>")) (hJ2 : ∀ H H1, c.J H → LamX.TabS H1 Pt (X.env.qual ++ "<genexpr>") → (∀ b o, b ≠ Pt → H b = some o → H1 b = some o) → c.J H1) (hPt : Pt ∈ c.S) (hNo : X.N = No) (hsc : X.env.scope = sc) (S : GScope No sc scope own) (hi : PIa X c tg iter I)
    (hpg : ∀ (s4 : Shared) (H2 : Hp) (cl : List (Str × Addr)) (code : Value) (fp : List Addr), PGa (gxx X s4 H2 scope cl code fp) c tg t) (hpe : ∀ (s4 : Shared) (H2 : Hp) (cl : List (Str × Addr)) (code : Value) (fp : List Addr), PEa (gxx X s4 H2 scope cl code fp) c elt E) (hv : ∀ j ∈ t.slots, j ∈ own.map (·.2) := by decide) (hs : ∀ x, genFold iter X.env x = pure x := by intro _; rfl)
    (he : starEach [.GeneratorExp elt [⟨tg, iter, [], 0⟩] scope gpos] X.env = (false, eval (.GeneratorExp elt [⟨tg, iter, [], 0⟩] scope gpos) X.env) :: starEach [] X.env := by rfl) :
    PEa X c (.Call (.Name "all" p) [.GeneratorExp elt [⟨tg, iter, [], 0⟩] scope gpos] [] pos) (aAllG true I t E (own.map (·.2))) := by
  subst hNo hsc
  exact ⟨pe_imp (pe_allG hr hg hm hb TB hcode S hi.pi (fun s4 H2 cl code fp => (hpg s4 H2 cl code fp).pg) (fun s4 H2 cl code fp => (hpe s4 H2 cl code fp).pe) hs he) (allG_imp hJ hJ2 hPt hv)⟩
theorem ae_any {cc Pt : Addr} {elt tg iter : Expr} {scope : Scope} {gpos p pos : Pos} {own : List (Str × Nat)} {I : XI} {t : Tgt} {E : XE} {k : Nat} {No : List Str} {sc : Scope} (hr : Room k X.A) (hg : Gl X "any") (hm : X.mg "any" = none) (hb : bootBuiltins "any" = some (.builtin "any")) (TB : LamX.TabB X.base X.mg cc Pt) (hcode : X.env.code = .ref cc)
    (hJ : ∀ H, c.J H → LamX.TabS H Pt (X.env.qual ++ "<genexpr>")) (hJ2 : ∀ H H1, c.J H → LamX.TabS H1 Pt (X.env.qual ++ "<genexpr>") → (∀ b o, b ≠ Pt → H b = some o → H1 b = some o) → c.J H1) (hPt : Pt ∈ c.S) (hNo : X.N = No) (hsc : X.env.scope = sc) (S : GScope No sc scope own) (hi : PIa X c tg iter I)
    (hpg : ∀ (s4 : Shared) (H2 : Hp) (cl : List (Str × Addr)) (code : Value) (fp : List Addr), PGa (gxx X s4 H2 scope cl code fp) c tg t) (hpe : ∀ (s4 : Shared) (H2 : Hp) (cl : List (Str × Addr)) (code : Value) (fp : List Addr), PEa (gxx X s4 H2 scope cl code fp) c elt E) (hv : ∀ j ∈ t.slots, j ∈ own.map (·.2) := by decide) (hs : ∀ x, genFold iter X.env x = pure x := by intro _; rfl)
    (he : starEach [.GeneratorExp elt [⟨tg, iter, [], 0⟩] scope gpos] X.env = (false, eval (.GeneratorExp elt [⟨tg, iter, [], 0⟩] scope gpos) X.env) :: starEach [] X.env := by rfl) :
    PEa X c (.Call (.Name "any" p) [.GeneratorExp elt [⟨tg, iter, [], 0⟩] scope gpos] [] pos) (aAllG false I t E (own.map (·.2))) := by
  subst hNo hsc
  exact ⟨pe_imp (pe_anyG hr hg hm hb TB hcode S hi.pi (fun s4 H2 cl code fp => (hpg s4 H2 cl code fp).pg) (fun s4 H2 cl code fp => (hpe s4 H2 cl code fp).pe) hs he) (allG_imp hJ hJ2 hPt hv)⟩
end
theorem bo_all : bootBuiltins "all" = some (.builtin "all") := by decide +kernel
theorem bo_any : bootBuiltins "any" = some (.builtin "any") := by decide +kernel
end Ab

namespace Ab
open PySem PySem.Spec PyProof.Rows L2
/-! ### in, not in, of a tuple of plain things -/
def flatD : PyData → Bool
  | .none => true
  | .bool _ => true
  | .int _ => true
  | .str _ => true
  | _ => false
section
variable {X : Cx} {c : Ctx} {e a b : Expr} {es : List Expr} {A B : XE} {L : XA} {pos p : Pos}
theorem flat_of {K : PySem.W.Frag} {H : Hp} {v : V} {d : PyData} (h : Dp K H v d) (f : flatD d = true) : flatV v = true := by
  cases h with
  | non => rfl
  | bl b => rfl
  | int i => rfl
  | str z => rfl
  | tup _ _ => cases f
  | lst _ _ => cases f
theorem eqV_of {K : PySem.W.Frag} {H : Hp} {v w : V} {d e : PyData} (h : Dp K H v d) (k : Dp K H w e) (f : flatD d = true) (g : flatD e = true) : eqV v w = PyData.eqv d e := by
  cases h <;> first | (cases f; done) | (cases k <;> first | (cases g; done) | rfl)
theorem flats_of {K : PySem.W.Frag} {H : Hp} : ∀ {vs : List V} {ds : List PyData}, DpAll K H vs ds → ds.all flatD = true → vs.all flatV = true
  | _, _, .nil, _ => rfl
  | _, _, .cons h t, f => by
    rw [List.all_cons, Bool.and_eq_true] at f ⊢
    exact ⟨flat_of h f.1, flats_of t f.2⟩
theorem inV_of {K : PySem.W.Frag} {H : Hp} {v : V} {d : PyData} (h : Dp K H v d) (f : flatD d = true) : ∀ {vs : List V} {ds : List PyData}, DpAll K H vs ds → ds.all flatD = true → inV v vs = ds.any fun z => PyData.eqv z d
  | _, _, .nil, _ => rfl
  | _, _, .cons k t, g => by
    rw [List.all_cons, Bool.and_eq_true] at g
    have := inV_of h f t g.2
    unfold inV at this ⊢
    rw [List.any_cons, List.any_cons, this, eqV_of k h g.1 f]
def oInT (neg : Bool) : XO := fun x y P => ∃ d ds, x = .dat d ∧ y = .dat (.tuple ds) ∧ flatD d = true ∧ ds.all flatD = true ∧ P (.dat (.bool (if neg = true then !ds.any fun z => PyData.eqv z d else ds.any fun z => PyData.eqv z d)))
theorem oa_ninT (hK : X.K = c.K := by rfl) : OpA X c (compareOp .NotIn) (oInT true) := ⟨opR_imp op_notIn_seq fun x y H Q ⟨rx, ry, P, _, r1, r2, ⟨d, ds, e1, e2, f1, f2, p⟩, k⟩ => by
  subst e1 e2
  rw [hK]
  obtain ⟨a, vs, rfl, h1, h2, _⟩ := r2.tup
  have hd := r1.dat.1
  refine ⟨a, vs, rfl, .inr h1, flat_of hd f1, flats_of h2 f2, ?_⟩
  rw [inV_of hd f1 h2 f2]
  exact k _ H _ (Fx.refl H) (rr_bl _) p⟩
theorem oa_inT (hK : X.K = c.K := by rfl) : OpA X c (compareOp .In) (oInT false) := ⟨opR_imp op_in_seq fun x y H Q ⟨rx, ry, P, _, r1, r2, ⟨d, ds, e1, e2, f1, f2, p⟩, k⟩ => by
  subst e1 e2
  rw [hK]
  obtain ⟨a, vs, rfl, h1, h2, _⟩ := r2.tup
  have hd := r1.dat.1
  refine ⟨a, vs, rfl, .inr h1, flat_of hd f1, flats_of h2 f2, ?_⟩
  rw [inV_of hd f1 h2 f2]
  exact k _ H _ (Fx.refl H) (rr_bl _) p⟩
/-! ### a dict of the module, str keys -/
def KTab (K : PySem.W.Frag) (w : World) (a : Addr) (tab : Str → Option PyData) : Prop := ∀ z d, tab z = some d → ∃ v, KDct K w a z v ∧ ∀ H, Dp K H v d ∧ imm d = true
def aKey (tab : Str → Option PyData) (A : XE) : XE := fun Γ P => A Γ fun r => ∃ z d, r = .dat (.str z) ∧ tab z = some d ∧ P (.dat d)
theorem ae_key {x : Str} {t : Addr} {tab : Str → Option PyData} (hg : Gl X x) (hm : X.mg x = some (.ref t)) (hk : KTab X.K X.w t tab) (hb : PEa X c b B) (hs : PlainIx b := by exact fun _ _ => rfl) (hdb : (x == ("__debug__" : Str)) = false := by decide) (hK : X.K = c.K := by rfl) : PEa X c (.Subscript (.Name x p) b pos) (aKey tab B) :=
  ⟨pe_imp (pe_ix ix_kdict (pe_glob (v := .ref t) hg hm rfl hdb) hb.pe hs) fun σ H Q ⟨Γ, P, at_, q, k⟩ => by
    refine ⟨Γ, _, at_, q, fun u H1 r f1 at1 r1 ⟨z, d, e, et, pd⟩ => ?_⟩
    subst e
    cases r1.ro.str
    obtain ⟨v, kd, dp⟩ := hk z d et
    exact ⟨t, z, v, rfl, rfl, kd, k v H1 (.dat d) f1 at1 (by show Dp c.K H1 v d ∧ imm d = true; rw [← hK]; exact dp H1) pd⟩⟩
/-! ### all, any of a list of truth values -/
def kAll (dir : Bool) : XC := fun rs P => ∃ (r : RV) (bs : List Bool), rs = [r] ∧ r.lst? = some (bs.map PyData.bool) ∧ P (.dat (.bool (if dir = true then bs.all id else bs.any id)))
theorem dp_bools {K : PySem.W.Frag} {H : Hp} : ∀ {vs : List V} {bs : List Bool}, DpAll K H vs (bs.map PyData.bool) → vs = bs.map V.bl
  | _, [], .nil => rfl
  | _, b :: bs, .cons (.bl _) t => by rw [List.map_cons, dp_bools t]
theorem ka_all (hc : X.calm = true := by rfl) (hK : X.K = c.K := by rfl) : CallA X c (.builtin "all") (kAll true) := ⟨callR_imp (cr_all hc) fun vs H Q ⟨rs, P, _, h, ⟨r, bs, e, el, p⟩, k⟩ => by
  subst e
  obtain ⟨v, rfl, ro⟩ := ros_one h
  obtain ⟨a, ws, rfl, _, h2, h3, _⟩ := ro.lst el
  rw [hK]
  have := dp_bools h3
  subst this
  exact ⟨a, bs, rfl, h2, k _ H _ (Fx.refl H) (rr_bl _) p⟩⟩
theorem ka_any (hc : X.calm = true := by rfl) (hK : X.K = c.K := by rfl) : CallA X c (.builtin "any") (kAll false) := ⟨callR_imp (cr_any hc) fun vs H Q ⟨rs, P, _, h, ⟨r, bs, e, el, p⟩, k⟩ => by
  subst e
  obtain ⟨v, rfl, ro⟩ := ros_one h
  obtain ⟨a, ws, rfl, _, h2, h3, _⟩ := ro.lst el
  rw [hK]
  have := dp_bools h3
  subst this
  exact ⟨a, bs, rfl, h2, k _ H _ (Fx.refl H) (rr_bl _) p⟩⟩
end
end Ab
namespace Ab
open PySem PySem.Spec PyProof.Rows L2
/-- room in a generator expression's frame -/
theorem room_g {j k : Nat} {A : Around} {env : Env} (r : Room k A) (h : j + 1 ≤ k) : Room j (A.in1.in1.deeper env) := by
  refine ⟨r.hd, ?_, ?_⟩
  · have := r.dp
    show A.depth + 1 + 3 * j + 5 < _
    omega
  · have := r.un
    show A.units + 1 + 1 + 3 + 16 * j + 200 < _
    omega
end Ab

namespace Ab
open PySem PySem.Spec PyProof.Rows L2
section
variable {P : RV → Prop} {x y : Str}
theorem sh_str : SeqAt.shaped (.str x) = PyData.strOk x := by
  unfold SeqAt.shaped
  rw [PyData.canLay0, PyData.depth]
  simp
theorem eq_ss : oEq (.dat (.str x)) (.dat (.str y)) P = (PyData.strOk x = true ∧ PyData.strOk y = true ∧ P (.dat (.bool (decide (x = y))))) := by
  unfold oEq
  simp [RV.dt?, sh_str, eqv_ss]
theorem ne_ss : oNe (.dat (.str x)) (.dat (.str y)) P = (PyData.strOk x = true ∧ PyData.strOk y = true ∧ P (.dat (.bool (!decide (x = y))))) := by
  unfold oNe
  simp [RV.dt?, sh_str, eqv_ss]
end
end Ab

namespace Ab
open PySem PySem.Spec PyProof.Rows L2
/-! ### for over an own list that a name holds: the name is not read meanwhile -/
section
variable {X : Cx} {c : Ctx} {tg : Expr} {S : XS} {pos p : Pos}
def sForO (i : Nat) (t : Tgt) (S : XS) : XS := fun D Γ => ∃ ds, Γ[i]? = some (some (.own ds)) ∧ ∃ W : Nat → Gam → Prop, W 0 (Γ.set i none) ∧
  (∀ (k : Nat) d, ds[k]? = some d → ∀ Γ1, W k Γ1 → ∃ Γ2, t.go d Γ1 = some Γ2 ∧ S { nx := W (k + 1), ct := W (k + 1), bk := D.nx, rt := D.rt } Γ2) ∧ ∀ Γ1, W ds.length Γ1 → D.nx Γ1
theorem At.moveO {σ : L2.St} {H : Hp} {Γ : Gam} (a : At c σ H Γ) {i : Nat} {ds : List PyData} {x : Addr} (e : Γ[i]? = some (some (.own ds))) (h : σ[i]? = some (some (.ref x))) : At c (σ ++ [some (.ref x)]) H (Γ.set i none ++ [some (.own ds)]) := by
  have il : i < Γ.length := (List.getElem?_eq_some_iff.mp e).1
  have lo : ∀ {j : Nat} {g : G}, (Γ.set i none ++ [some (.own ds)])[j]? = some (some g) → (j < Γ.length ∧ j ≠ i ∧ Γ[j]? = some (some g)) ∨ (j = Γ.length ∧ g = .own ds) := fun {j g} q => by
    by_cases hj : j < Γ.length
    · rw [List.getElem?_append_left (by simpa using hj)] at q
      by_cases hi : i = j
      · subst hi
        rw [List.getElem?_set_self il] at q
        cases q
      · rw [List.getElem?_set_ne hi] at q
        exact .inl ⟨hj, Ne.symm hi, q⟩
    · rw [List.getElem?_append_right (by simpa using Nat.le_of_not_lt hj), List.length_set] at q
      have : j - Γ.length = 0 := by
        have := (List.getElem?_eq_some_iff.mp q).1
        simp at this
        omega
      rw [this] at q
      simp at q
      exact .inr ⟨by omega, q.symm⟩
  have sl : ∀ {j : Nat}, j < Γ.length → (σ ++ [some (.ref x)])[j]? = σ[j]? := fun {j} hj => List.getElem?_append_left (by rw [a.len]; exact hj)
  have sr : (σ ++ [some (.ref x)])[Γ.length]? = some (some (V.ref x)) := by
    rw [List.getElem?_append_right (by rw [a.len]; exact Nat.le_refl _), a.len]
    simp
  refine ⟨a.ok, by simp [a.len], fun j g q => ?_, fun j k v es fs q1 q2 q3 q4 => ?_, a.kp, a.J⟩
  · rcases lo q with ⟨hj, _, q⟩ | ⟨rfl, rfl⟩
    · rw [sl hj]
      exact a.slot j g q
    · rw [sr]
      obtain ⟨v, h1, h2⟩ := a.slot i _ e
      rw [h] at h1
      cases h1
      exact ⟨_, rfl, h2⟩
  · rcases lo q1 with ⟨hj, nj, q1⟩ | ⟨rfl, _⟩
    · rw [sl hj] at q3
      rcases lo q2 with ⟨hk, nk, q2⟩ | ⟨rfl, _⟩
      · rw [sl hk] at q4
        exact a.sep j k v es fs q1 q2 q3 q4
      · rw [sr] at q4
        cases q4
        exact absurd (a.sep j i _ es ds q1 e q3 h) nj
    · rcases lo q2 with ⟨hk, nk, q2⟩ | ⟨rfl, _⟩
      · rw [sl hk] at q4
        rw [sr] at q3
        cases q3
        exact absurd (a.sep k i _ fs ds q2 e q4 h) nk
      · rfl
theorem st_forO (i : Nat) {x : Str} {body : List Stmt} {t : Tgt} (hp : PassesOwn (model X.prog X.w) X.A X.env X.xe) (hc : X.calm = true) (hv : PE X (.Name x p) (tVar i)) (hg : PGa X c tg t) (hb : PSts X c body S) (hs : ∀ u, foldedSetIterable (.Name x p) X.env u = pure u := by intro _; rfl) (hK : X.K = c.K := by rfl) :
    PSt X c (.For tg (.Name x p) body [] pos) (sForO i t S) := ⟨ps_imp (ps_for hp hc (pi_seq hv) hg.pg hb.ps hs) fun E σ H ⟨Γ, Δ, τ, D, hl, at_, ⟨ds, eΓ, W, w0, step, done⟩, k⟩ => by
  obtain ⟨a, vs, h1, h2, h3, h4, h5⟩ := own_at at_ hl eΓ
  rw [hK]
  have il : i < Γ.length := (List.getElem?_eq_some_iff.mp eΓ).1
  refine ⟨.ref a, h1, a, rfl, .inl ⟨⟨vs, SqL.of h2⟩, ?_⟩⟩
  have hlτ : τ.length = Δ.length := by
    have := at_.len
    rw [List.length_append, List.length_append] at this
    omega
  have aW : At c (σ ++ (τ ++ [some (.ref a)])) H (Γ.set i none ++ (Δ ++ [some (.own ds)])) := by
    have := at_.moveO (i := i) (ds := ds) (x := a) (by rw [List.getElem?_append_left il]; exact eΓ) (by rw [List.getElem?_append_left (by omega)]; exact h1)
    rw [List.set_append_left _ _ il, List.append_assoc, List.append_assoc] at this
    exact this
  refine ⟨fun k m σ1 H2 => m = ds.length - k ∧ k ≤ ds.length ∧ ∃ Γ1, W k Γ1 ∧ σ1.length = Γ1.length ∧ At c (σ1 ++ (τ ++ [some (.ref a)])) H2 (Γ1 ++ (Δ ++ [some (.own ds)])), ⟨ds.length, by omega, by omega, Γ.set i none, w0, by rw [List.length_set]; exact hl, aW⟩, ?_⟩
  rintro k' m σ1 H2 ⟨rfl, hi, Γ1, w1, hl1, a1⟩
  have drop : ∀ {σ3 Γ3 H3}, σ3.length = Γ3.length → At c (σ3 ++ (τ ++ [some (.ref a)])) H3 (Γ3 ++ (Δ ++ [some (.own ds)])) → At c (σ3 ++ τ) H3 (Γ3 ++ Δ) := fun {σ3 Γ3 H3} hl3 a3 => by
    rw [← List.append_assoc, ← List.append_assoc] at a3
    exact a3.left (by rw [List.length_append, List.length_append]; omega)
  obtain ⟨ws, g1, g2, g3⟩ : ∃ ws, H2 a = some (.lst ws) ∧ DpAll c.K H2 ws ds ∧ immAll ds = true := by
    have a2 := a1
    rw [← List.append_assoc, ← List.append_assoc] at a2
    obtain ⟨v, e1, e2⟩ := slot_last a2 (by rw [List.length_append, List.length_append]; omega)
    cases e1
    obtain ⟨b, ws, e3, _, _, e4, e5, e6⟩ := e2
    cases e3
    exact ⟨ws, e4, e5, e6⟩
  by_cases hlt : k' < ds.length
  · have hw : k' < ws.length := by rw [dpAll_length g2]; exact hlt
    refine .inr ⟨⟨ws, ws[k'], SqL.of g1, List.getElem?_eq_getElem hw⟩, fun σ' H' => k' + 1 ≤ ds.length ∧ ∃ Γ', W (k' + 1) Γ' ∧ σ'.length = Γ'.length ∧ At c (σ' ++ (τ ++ [some (.ref a)])) H' (Γ' ++ (Δ ++ [some (.own ds)])), fun σ' H' hN => ⟨ds.length - (k' + 1), by omega, rfl, hN⟩, fun y H3 hy => ?_⟩
    obtain ⟨e, q⟩ := hy
    subst e
    obtain ⟨d, hd, dp⟩ := dpAll_getV g2 (q ws (SqL.of g1))
    obtain ⟨Γ2, et, q2⟩ := step k' d hd Γ1 w1
    refine tgt_run dp (immAll_get g3 hd) hl1 a1 et fun σ4 hl4 a4 _ => ⟨Γ2, Δ ++ [some (.own ds)], τ ++ [some (.ref a)], _, hl4, a4, q2, ?_⟩
    exact ⟨fun Γ' σ' H' w' hl' a' => ⟨by omega, Γ', w', hl', a'⟩, fun Γ' σ' H' q' hl' a' => k.nx Γ' σ' H' q' hl' (drop hl' a'), fun Γ' σ' H' w' hl' a' => ⟨by omega, Γ', w', hl', a'⟩, k.rt⟩
  · have e : k' = ds.length := by omega
    subst e
    exact .inl ⟨⟨ws, SqL.of g1, by rw [dpAll_length g2]; exact Nat.le_refl _⟩, k.nx Γ1 σ1 H2 (done Γ1 w1) hl1 (drop hl1 a1)⟩⟩
end
end Ab
namespace Ab
open PySem PySem.Spec PyProof.Rows L2
theorem tab_of2 {p : Program} {loose : List Str} {mean : ExcName → Option Value} {mg mb : Str → Option Value} {h : Heap} {K : PySem.W.Frag} {x : Str} {c P : Addr} (T : PyProof.Rows.Top p loose mean mg mb h) (X : K.In h) (hr : ((recsOf p).find? (fun e => e.name == x)).isSome = true) (ht : PySem.W.tabIn K x = some (c, P)) : PySem.W.CodeHd h c P ∧ h.get? P = some (PySem.W.tabObj #[]) := by
  obtain ⟨d, hd⟩ := Option.isSome_iff_exists.mp hr
  exact PySem.W.tab_of T X hd ht
end Ab

namespace Ab
open PySem PySem.Spec PyProof.Rows L2
/-! ### texts -/
section
variable {X : Cx} {c : Ctx} {e a b tg : Expr} {es : List Expr} {A B : XE} {L : XA} {pos p : Pos} {P : RV → Prop} {z y : Str}
theorem sl_s {l h : Option Int} : oSl (.dat (.str z)) l h P = (z.length ≤ sizeLine ∧ P (.dat (.str (cutS z l h)))) := by
  unfold oSl
  simp [RV.lst?]
theorem ix_s {i : Int} : oIx (.dat (.str z)) (.dat (.int i)) P = ∃ k, z.length ≤ sizeLine ∧ atI z.cps.toList i = some k ∧ P (.dat (.str ⟨#[k]⟩)) := by
  unfold oIx
  simp [seqOf]
/-- a sign in 'abc' -/
def oInS : XO := fun x y P => ∃ (k : Nat) (z : Str), x = .dat (.str ⟨#[k]⟩) ∧ y = .dat (.str z) ∧ P (.dat (.bool (decide (k ∈ z.cps.toList))))
theorem oa_inS : OpA X c (compareOp .In) oInS := ⟨opR_imp op_in_sign fun x y H Q ⟨rx, ry, P, _, r1, r2, ⟨i, j, e1, e2, p⟩, k⟩ => by
  subst e1 e2
  exact ⟨i, j, r1.str, r2.str, k _ H _ (Fx.refl H) (rr_bl _) p⟩⟩
/-- a text in a dict of the module -/
def oInK (tab : Str → Option PyData) : XO := fun x _ P => ∃ z : Str, x = .dat (.str z) ∧ P (.dat (.bool (tab z).isSome))
/-- over a text's signs -/
def signD (z : Str) : List PyData := z.cps.toList.map fun k => .str ⟨#[k]⟩
theorem yl_str (z : Str) : Yl c (Its z) (fun _ => True) (signD z) where
  go := fun i H _ hi => by
    unfold signD at hi
    rw [List.length_map, Array.length_toList] at hi
    exact hi
  stop := fun i H _ hi => by
    unfold signD at hi
    rw [List.length_map, Array.length_toList] at hi
    exact hi
  yld := fun i H x H' _ hi ⟨e1, k, hk, e2⟩ => by
    subst e1 e2
    refine ⟨Fx.refl H', True.intro, .str ⟨#[k]⟩, ?_, .str _, rfl⟩
    unfold signD
    rw [List.getElem?_map, Array.getElem?_toList, hk]
    rfl
def aIStr (A : XE) : XI := fun Γ P => A Γ fun r => ∃ z, r = .dat (.str z) ∧ P (signD z) true
theorem ai_str (ha : PEa X c e A) : PIa X c tg e (aIStr A) := ⟨pi_imp (pi_str ha.pe) fun σ H R ⟨Γ, P, at_, p, k⟩ =>
  ⟨Γ, _, at_, p, fun v H1 r f1 at1 r1 ⟨z, e, q⟩ => by
    subst e
    exact ⟨z, r1.ro.str, k (Its z) H1 (signD z) true (fun _ => True) f1 at1 True.intro (fun _ _ _ _ _ => True.intro) (fun _ => ghost_nil) (yl_str z) q⟩⟩⟩
theorem signD_get {i : Nat} {d : PyData} : (signD z)[i]? = some d ↔ ∃ k, z.cps.toList[i]? = some k ∧ .str ⟨#[k]⟩ = d := by
  unfold signD
  exact map_get
/-- int of a text -/
def kIntS : XC := fun rs P => ∃ z n, rs = [.dat (.str z)] ∧ PySem.intText? z = some n ∧ z.length ≤ 640 ∧ P (.dat (.int n))
theorem ka_intS : CallA X c (.type "int") kIntS := ⟨callR_imp call_int_str fun vs H Q ⟨rs, P, _, h, ⟨z, n, e, e2, e3, p⟩, k⟩ => by
  subst e
  obtain ⟨v, rfl, ro⟩ := ros_one h
  exact ⟨z, n, by rw [ro.str], e2, e3, k _ H _ (Fx.refl H) (rr_int _) p⟩⟩
/-- 'x'.join(list of texts) -/
def aJoin (A B : XE) : XE := fun Γ P => A Γ fun x => ∃ z : Str, x = .dat (.str z) ∧ B Γ fun y => ∃ ys : List Str, y.lst? = some (ys.map PyData.str) ∧ (ys.map (·.length)).sum + ys.length * z.length ≤ 16777216 ∧ P (.dat (.str (Txt.join z ys)))
theorem dp_strs {K : PySem.W.Frag} {H : Hp} : ∀ {vs : List V} {ys : List Str}, DpAll K H vs (ys.map PyData.str) → vs = ys.map V.str
  | _, [], .nil => rfl
  | _, b :: bs, .cons (.str _) t => by rw [List.map_cons, dp_strs t]
theorem ae_join {apos pos : Pos} (ha : PEa X c a A) (hb : PEa X c b B) (hs : starEach [b] X.env = [(false, eval b X.env)] := by rfl) (hbase : attributeBase a "join" X.env (eval a X.env) = eval a X.env := by rfl) (hline : (apos.endLine == pos.line) = true := by rfl) (hK : X.K = c.K := by rfl) :
    PEa X c (.Call (.Attribute a "join" apos) [b] [] pos) (aJoin A B) := ⟨pe_imp (pe_join ha.pe hb.pe hs hbase hline) fun σ H Q ⟨Γ, P, at_, p, k⟩ => by
  refine ⟨Γ, _, at_, p, fun v H1 r1 f1 at1 rr1 ⟨z, ez, q1⟩ => ?_⟩
  subst ez
  have ev := rr1.ro.str
  refine ⟨⟨z, ev⟩, Γ, _, at1, q1, fun u H2 r2 f2 at2 rr2 ⟨ys, el, hz, q2⟩ => ?_⟩
  obtain ⟨x, vs, rfl, _, t1, d1, _⟩ := rr2.ro.lst el
  have := dp_strs d1
  subst this
  rw [hK]
  exact ⟨z, x, ys, ev, rfl, .inl t1, hz, k _ H2 _ (f1.trans f2) at2 (rr_str _) q2⟩⟩
/-- str of an int -/
def kStr : XC := fun rs P => ∃ i : Int, rs = [.dat (.int i)] ∧ i.natAbs.log2 < 1920 ∧ P (.dat (.str (toString i)))
theorem ka_str : CallA X c (.type "str") kStr := ⟨callR_imp call_str_int fun vs H Q ⟨rs, P, _, h, ⟨i, e, e2, p⟩, k⟩ => by
  subst e
  obtain ⟨v, rfl, ro⟩ := ros_one h
  exact ⟨i, by rw [ro.int], e2, k _ H _ (Fx.refl H) (rr_str _) p⟩⟩
theorem str_eval {i : Int} {P : RV → Prop} : kStr [.dat (.int i)] P = (i.natAbs.log2 < 1920 ∧ P (.dat (.str (toString i)))) := by
  unfold kStr
  simp
/-- a def that calls itself: nothing is asked at the bottom -/
theorem fn_none {P : Program} {w : World} {K : PySem.W.Frag} {mg : Str → Option Value} {base : Heap} {k : Nat} {f : Addr} {fd : FuncData} {ps : List Str} {sp : Sp} (h : ∀ vs H Q E, ¬ sp vs H Q E) : FnOk P w K mg base CX0 k f fd ps sp :=
  ⟨fun vs H Q E q => absurd q (h vs H Q E), fun A outer s H args us vs Q E _ _ _ _ q => absurd q (h vs H Q E)⟩
/-- own list + new list -/
def aOwnAdd (i : Nat) (B : XE) : XE := fun Γ P => ∃ ds, Γ[i]? = some (some (.own ds)) ∧ B Γ fun r => ∃ es, r = .new es ∧ ds.length + es.length ≤ sizeLine ∧ P (.new (ds ++ es))
theorem ae_ownAdd (i : Nat) {x : Str} {px : Pos} (hv : PE X (.Name x px) (tVar i)) (hb : PEa X c b B) : PEa X c (.BinOp (.Name x px) .Add b pos) (aOwnAdd i B) := ⟨pe_imp (pe_op op_cat hv hb.pe) fun σ H Q ⟨Γ, P, at_, ⟨ds, eΓ, p⟩, k⟩ => by
  obtain ⟨v, h1, y, vs, h2, h3, h4, h5, h6, h7⟩ := at_.slot i _ eΓ
  subst h2
  refine ⟨.ref y, h1, Γ, _, at_, p, fun u H1 r f1 at1 r1 ⟨es, er, hz, q⟩ => ?_⟩
  subst er
  obtain ⟨b, ws, rfl, g1, g2, g3, g4, g5⟩ := r1
  have h5' := f1.keep y _ h4 h5
  refine ⟨y, b, vs, ws, rfl, rfl, h5', g3, by rw [dpAll_length h6, dpAll_length g4]; exact hz, fun z hz' => ?_⟩
  have f : Fx [] H1 (upd H1 z (.lst (vs ++ ws))) := Fx.new hz'
  have n := (at1.fresh hz').1
  exact k _ _ _ (f1.trans f.nil) (at1.ext f) (rr_new (f1.free n hz') n upd_same (dpAll_append (dpAll_mono (fun a xs z => f.tup a xs (f1.tup a xs z)) _ _ h7 h6) (dpAll_mono f.tup _ _ g5 g4)) (by simp [immAll_append, h7, g5])) q⟩
/-- return of an own list -/
def sRetO (i : Nat) : XS := fun D Γ => ∃ ds, Γ[i]? = some (some (.own ds)) ∧ D.rt (.new ds)
theorem st_retO (i : Nat) {x : Str} {px : Pos} (hv : PE X (.Name x px) (tVar i)) : PSt X c (.Return (some (.Name x px)) pos) (sRetO i) := ⟨ps_imp (ps_ret hv) fun E σ H ⟨Γ, Δ, τ, D, hl, at_, ⟨ds, eΓ, q⟩, k⟩ => by
  have il : i < Γ.length := (List.getElem?_eq_some_iff.mp eΓ).1
  obtain ⟨v, h1, y, vs, h2, h3, h4, h5, h6, h7⟩ := (at_.left hl).slot i _ eΓ
  subst h2
  exact ⟨.ref y, h1, k.rt _ H (.new ds) at_.kp at_.J ⟨y, vs, rfl, h3, h4, h5, h6, h7⟩ q⟩⟩
end
end Ab

namespace Ab
open PySem PySem.Spec PyProof.Rows RT
/-! ### list(reversed(a tuple)) -/
theorem nolen_rt : typeLookup (.type "reversed") "__len__" = pure none := by rw [typeLookup_type, builtinLookup_eq_fast]; kernel_rfl
theorem slot_rt_hint : Slot "reversed" "__length_hint__" "reversed.__length_hint__" :=
  .of (owner := "reversed") (n := "__length_hint__") (by rw [typeLookup_type, builtinLookup_eq_fast]; kernel_rfl) (by decide +kernel) (by decide +kernel) (by decide +kernel)
    (by first | exact .inl (by decide +kernel) | exact .inr (by decide +kernel)) (by rw [isSubtype_type]; kernel_rfl)
theorem entry_rt_hint : entryFor table "reversed.__length_hint__" = some Builtin.«reversed.__length_hint__» := entryFor_of_tree (by kernel_rfl)
theorem args_rt_hint (a : Value) : argsOk "reversed.__length_hint__" ⟨[a], []⟩ := by
  unfold argsOk; rw [signature?_of (id := "reversed.__length_hint__") (n := "__length_hint__".toList.reverse) (o := ['d', 'e', 's', 'r', 'e', 'v', 'e', 'r']) (by kernel_rfl) owner_rt]; kernel_rfl
theorem IsTup.keep {h h' : Heap} {t : Addr} {items : Array Value} (x : IsTup h t items) (e : ∀ o, h.get? t = some o → h'.get? t = some o) : IsTup h' t items := let ⟨o, ho, r⟩ := x; ⟨o, e _ ho, r⟩
theorem walks_rt {prog : Program} {w : World} {A : Around} (hh : A.handled = none) (I t : Addr) (hne : t ≠ I) (items : Array Value) (hsz : items.size ≤ sizeLine) :
    Walks prog w A I [I, t] [I] items.size (fun i v => items[items.size - 1 - i]? = some v) (fun i h => i ≤ items.size ∧ IsRt h I t ((items.size : Int) - 1 - (i : Int)) ∧ IsTup h t items) where
  sub := fun b hb => by simp at hb; simp [hb]
  frame := fun _ _ _ x hk => ⟨x.1, x.2.1.at fun o e => hk I (by simp) o e, IsTup.keep x.2.2 fun o e => hk t (by simp) o e⟩
  item := fun i s Q E hi x hQ => by
    have e : (items.size : Int) - 1 - (i : Int) = ((items.size - 1 - i : Nat) : Int) := by omega
    have hit := x.2.1
    rw [e] at hit
    have hx : items[items.size - 1 - i]? = some (items[items.size - 1 - i]'(by omega)) := Array.getElem?_eq_getElem (by omega)
    refine next_rt_item hit x.2.2 hx hsz fun h' hit' hs' => ?_
    have e2 : ((items.size - 1 - i : Nat) : Int) - 1 = (items.size : Int) - 1 - ((i + 1 : Nat) : Int) := by omega
    rw [e2] at hit'
    exact hQ _ h' _ hx ⟨hi, hit', IsTup.keep x.2.2 fun o eo => (hs'.2 t hne).trans eo⟩ fun b o hb eo => hs'.extBut b o (fun h => hb (by simp [h])) eo
  done := fun s Q E x hQ => by
    have e : (items.size : Int) - 1 - (items.size : Int) = -1 := by omega
    have hit := x.2.1
    rw [e] at hit
    exact next_rt_end hh hit fun h' he' => hQ h' s.toks fun b o hb eo => he' b o (fun h => hb (by simp [h])) eo
  self := fun _ _ _ _ x hQ => iter_rt x.2.1 hQ
section
variable {prog : Program} {w : World} {A : Around} {E : Value → Shared → Prop} {s : Shared}
theorem hint_rt {it t : Addr} {items : Array Value} {Q : Value → Shared → Prop} (hit : IsRt s.heap it t ((items.size : Int) - 1)) (ht : IsTup s.heap t items) (hsz : items.size ≤ sizeLine)
    (h : ∀ tk tk', s.toks ≤ tk' → Q (.int items.size tk) { s with toks := tk' }) : wpAny (model prog w) A (call (.builtin "reversed.__length_hint__") [.ref it]) Q E s := by
  obtain ⟨o, ho, hc, hd⟩ := id hit
  rw [sizeLine_eq] at hsz
  refine wpAny_call_entry slot_rt_hint hit.typeIs entry_rt_hint ?_ (args_rt_hint _)
  unfold Builtin.«reversed.__length_hint__»
  refine wpAny_bind (wpAny_of_eq (a := Value.ref it) rfl ?_)
  try dsimp only
  refine wpAny_bind (wpAny_field ho hd (x := .ref t) rfl ?_)
  try dsimp only
  rw [if_neg (show ¬ ((Value.ref t == Value.none) = true) from Bool.false_ne_true)]
  try dsimp only
  refine wpAny_bind (len_tuple ht (by omega) ?_)
  refine wpAny_bind (wpAny_of_eq (a := some ((items.size : Nat) : Int)) rfl ?_)
  try dsimp only
  refine wpAny_bind (wpAny_field (s := { s with toks := s.toks + 1 + 1 }) ho hd (x := rawInt ((items.size : Int) - 1)) rfl ?_)
  show wpAny _ _ (if (items.size : Int) < (items.size : Int) - 1 + 1 then _ else _) _ _ _
  rw [if_neg (by omega)]
  refine wpAny_bind (wpAny_mkInt (wpAny_pure ⟨_, rfl, ?_⟩))
  rw [show (items.size : Int) - 1 + 1 = (items.size : Int) by omega]
  exact h _ _ (by show s.toks ≤ s.toks + 1 + 1 + 1; omega)

theorem extend_rt {R : Result → Shared → Prop} {it t : Addr} {items : Array Value} (hh : A.in1.handled = none) (hne : t ≠ it) (hsz : items.size ≤ sizeLine) (h0 : 0 < items.size) (S : Addr) (res : Value) (c₀ : Nat) (hit : IsRt s.heap it t ((items.size : Int) - 1)) (ht : IsTup s.heap t items) (hSi : S ≠ it) (hSt : S ≠ t)
    (hS : s.heap.get? S = some { cls := .type "list", data := .seq #[] c₀ })
    (hR : ∀ s' acc' c', Moved [S, it] (fun a b => b = a) s s' → s'.heap.get? S = some { cls := .type "list", dict := none, data := .seq acc' c', slots := #[] } → ItemsOf (fun i v => items[items.size - 1 - i]? = some v) acc' items.size → R (.ok (.ret res)) s') :
    wpAny (model prog w) A.in1 (Builtin.List.listExtendWith (.ref S) (.ref it) res)
      (fun fin s' => match fin with | .done f => R (.ok f) s' | .again c' => c'.quiet = true ∧ codeAny (model prog w) A c' R s') (fun e s' => R (.error e) s') s := by
  have hf : Builtin.List.listFitsIndex (items.size : Int) = true := by
    have hz := hsz
    rw [sizeLine_eq] at hz
    unfold Builtin.List.listFitsIndex
    rw [Bool.and_eq_true, decide_eq_true_eq, decide_eq_true_eq]
    exact ⟨by omega, by omega⟩
  have hg : Builtin.List.listTooLong (items.size : Int).toNat = false := by
    have hz := hsz
    rw [sizeLine_eq] at hz
    unfold Builtin.List.listTooLong
    rw [decide_eq_false_iff_not, Int.toNat_natCast]
    omega
  have hn0 : (((items.size : Nat) : Int) != 0) = true := by
    rw [bne_iff_ne]
    omega
  have z0 : (#[] : Array Value).size ≤ sizeLine := Nat.zero_le _
  have z1 : ((#[] : Array Value).push Value.none).size ≤ sizeLine + 1 := by simp
  have z2 : ((#[] : Array Value).push Value.none).size ≤ sizeLine := by rw [sizeLine_eq]; simp
  have z3 : (((#[] : Array Value).push Value.none).pop).size ≤ sizeLine + 1 := by simp
  have W := (walks_rt (prog := prog) (w := w) (A := A.in1) hh it t hne items hsz).toS
  have hSf : S ∉ [it, t] := by simp [hSi, hSt]
  have hT := hit.typeIs
  have e0 : ((items.size : Nat) : Int) - 1 - ((0 : Nat) : Int) = (items.size : Int) - 1 := by omega
  unfold Builtin.List.listExtendWith
  refine wpAny_bind (wpAny_typeOf hT ?_)
  have h1 : Builtin.List.listSameRef (.ref S) (.ref it) = false := by simp [Builtin.List.listSameRef, hSi]
  have h2 : (Value.type "reversed" == Value.type "list") = false := by decide
  have h3 : (Value.type "reversed" == Value.type "tuple") = false := by decide
  simp only [h1, h2, h3, Bool.or_false, Bool.false_eq_true, if_false]
  refine wpAny_bind (iter_rt hit ?_)
  refine wpAny_bind (wpAny_holding ?_)
  unfold Builtin.List.listLengthHint
  refine wpAny_bind (wpAny_specialOf hT nolen_rt ?_)
  show wpAny _ A.in1 (specialOf (Value.ref it) (Str.ofString "__length_hint__") >>= _) _ _ _
  refine wpAny_bind (wpAny_specialOf hT slot_rt_hint.lookup ?_)
  generalize hid : ("reversed.__length_hint__" : String) = id0
  wp_delta
  rw [show splitId id0 = some ("reversed", "__length_hint__") from by subst hid; decide +kernel]
  subst hid
  refine wpAny_bind (wpAny_isInstance (b := true) hT (by rw [isSubtype_type]; kernel_rfl) ?_)
  try dsimp only
  rw [if_neg (by decide)]
  try dsimp only
  rw [if_neg (by decide +kernel)]
  refine wpAny_bind (wpAny_rule ?_)
  refine wpAny_bind (wpAny_of_eq (slot_rt_hint.bind _) ?_)
  try dsimp only
  refine wpAny_bind (wpAny_attempt (hint_rt hit ht hsz fun tk tk' htk => ?_))
  have ha : asInt? (Value.int (items.size : Int) tk) = pure (some (items.size : Int)) := rfl
  simp only [ha, pure_bind]
  rw [hf, if_neg (by decide)]
  try dsimp only
  rw [if_neg (by omega)]
  try dsimp only
  rw [hg, if_neg (by decide)]
  refine wpAny_pure ?_
  rw [hn0]
  show wpAny _ A.in1 (rule "list.extend.makes-room" >>= fun _ => Builtin.List.listTouch (.ref S) >>= fun _ =>
    again (.builtin "list.extend.loop" ⟨[.ref S, .ref it, res], []⟩)) _ _ _
  refine wpAny_bind (wpAny_rule ?_)
  refine wpAny_bind ?_
  show wpAny _ A.in1 (updateSeq S (·.push .none) >>= fun _ => updateSeq S (·.pop)) _ _ _
  refine wpAny_bind (wpAny_updateSeq (hz := z0) (_hz' := z1) hS rfl ?_)
  have hS₂ := Heap.get?_update_self (Obj.mapSeq (·.push Value.none)) hS rfl
  refine wpAny_updateSeq (hz := z2) (_hz' := z3) hS₂ rfl ?_
  have hS₃ := Heap.get?_update_self (Obj.mapSeq (·.pop)) hS₂ rfl
  have oth : ∀ b o, b ≠ S → s.heap.get? b = some o → ((s.heap.update S (Obj.mapSeq (·.push Value.none))).update S (Obj.mapSeq (·.pop))).get? b = some o :=
    fun b o hb e => (Heap.get?_update_other _ _ (Ne.symm hb)).trans ((Heap.get?_update_other _ _ (Ne.symm hb)).trans e)
  refine wpAny_pure ⟨plainId_quiet F.plain_extend_loop _, codeAny_extend_loopS W hsz _ hSf _ items.size 0 _ _ _ rfl (Nat.zero_le _)
    ⟨Nat.zero_le _, by rw [e0]; exact hit.at fun o e => oth it o (Ne.symm hSi) e, IsTup.keep ht fun o e => oth t o (Ne.symm hSt) e⟩ hS₃ (ItemsOf.nil _) fun s' acc' c' hm hS' hacc => ?_⟩
  exact hR s' acc' c' (Moved.trans (G := fun a b => b = a) (fun _ _ _ h1 h2 => h2.trans h1) ((Moved.refl (wr := [S, it]) (G := fun a b => b = a) fun _ => rfl).then_heap htk fun b o hb e => oth b o (fun h => hb (h ▸ List.mem_cons_self)) e) hm) hS' hacc
theorem init_rt {R : Result → Shared → Prop} {it t : Addr} {items : Array Value} (hh : A.in1.handled = none) (hne : t ≠ it) (hsz : items.size ≤ sizeLine) (h0 : 0 < items.size) (S : Addr) (hit : IsRt s.heap it t ((items.size : Int) - 1)) (ht : IsTup s.heap t items) (hSi : S ≠ it) (hSt : S ≠ t)
    (hS : s.heap.get? S = some { cls := .type "list", data := .seq #[] })
    (hR : ∀ s' acc' c', Moved [S, it] (fun a b => b = a) s s' → s'.heap.get? S = some { cls := .type "list", dict := none, data := .seq acc' c', slots := #[] } → ItemsOf (fun i v => items[items.size - 1 - i]? = some v) acc' items.size → R (.ok (.ret .none)) s') :
    wpAny (model prog w) A.in1 (Builtin.«list.__init__» ⟨[.ref S, .ref it], []⟩)
      (fun fin s' => match fin with | .done f => R (.ok f) s' | .again c' => c'.quiet = true ∧ codeAny (model prog w) A c' R s') (fun e s' => R (.error e) s') s := by
  show wpAny _ A.in1 (do let old ← Builtin.List.listItems (.ref S); Builtin.List.listUpdate (.ref S) (fun _ => #[]); letGo old.toList.reverse; Builtin.List.listExtendWith (.ref S) (.ref it) .none) _ _ s
  refine wpAny_bind ?_
  unfold Builtin.List.listItems
  refine wpAny_bind (wpAny_seqItems hS rfl (wpAny_pure ?_))
  show wpAny _ A.in1 (updateSeq S (fun _ => #[]) >>= fun _ => letGo (#[] : Array Value).toList.reverse >>= fun _ => Builtin.List.listExtendWith (.ref S) (.ref it) .none) _ _ s
  refine wpAny_bind (wpAny_updateSeq hS rfl ?_)
  have hS₂ := Heap.get?_update_self (Obj.mapSeq (fun _ => (#[] : Array Value))) hS rfl
  have oth : ∀ b o, b ≠ S → s.heap.get? b = some o → (s.heap.update S (Obj.mapSeq (fun _ => (#[] : Array Value)))).get? b = some o :=
    fun b o hb e => (Heap.get?_update_other _ _ (Ne.symm hb)).trans e
  refine wpAny_bind (wpAny_letGo ?_)
  refine extend_rt hh hne hsz h0 S .none _ (hit.at fun o e => oth it o (Ne.symm hSi) e) (IsTup.keep ht fun o e => oth t o (Ne.symm hSt) e) hSi hSt hS₂ fun s' acc' c' hm hS' hacc => ?_
  exact hR s' acc' c' (Moved.trans (G := fun a b => b = a) (fun _ _ _ h1 h2 => h2.trans h1) ((Moved.refl (wr := [S, it]) (G := fun a b => b = a) fun _ => rfl).then_heap (Nat.le_refl _) fun b o hb e => oth b o (fun h => hb (h ▸ List.mem_cons_self)) e) hm) hS' hacc
theorem call_list_rt {it t : Addr} {items : Array Value} {Q : Value → Shared → Prop} (hh : A.in1.in1.handled = none) (hne : t ≠ it) (hsz : items.size ≤ sizeLine) (h0 : 0 < items.size) (hit : IsRt s.heap it t ((items.size : Int) - 1)) (ht : IsTup s.heap t items)
    (hQ : ∀ (h' : Heap) (tk : Nat) (acc : Array Value) (c' : Nat), (∀ b o, b ≠ it → s.heap.get? b = some o → h'.get? b = some o) → h'.get? s.heap.objs.size = some { cls := .type "list", dict := none, data := .seq acc c', slots := #[] } →
      ItemsOf (fun i v => items[items.size - 1 - i]? = some v) acc items.size → Q (.ref s.heap.objs.size) { s with heap := h', toks := tk }) :
    wpAny (model prog w) A (call (.type "list") [.ref it]) Q E s := by
  obtain ⟨oi, hoi, _⟩ := id hit
  obtain ⟨ot, hot, _⟩ := id ht
  refine callType_codes (Q₁ := fun obj s₁ => obj = .ref s.heap.objs.size ∧ s₁ = { s with heap := s.heap.push { cls := .type "list", data := .seq #[] } }) F.called_list (F.typeCall_list_1 _) F.entry_list_init
    (code_list_new _ ⟨rfl, rfl⟩) fun obj s₁ h₁ => ?_
  obtain ⟨rfl, rfl⟩ := h₁
  have hS : (s.heap.push { cls := .type "list", data := .seq #[] }).get? s.heap.objs.size = some { cls := .type "list", data := .seq #[] } := Heap.get?_push_size _ rfl
  refine ⟨⟨_, hS, rfl⟩, F.args_list_init_2 _ _, init_rt hh hne hsz h0 _ (hit.at fun o e => Heap.get?_push_of_some _ e) (IsTup.keep ht fun o e => Heap.get?_push_of_some _ e) (Nat.ne_of_gt (Heap.lt_size hoi)) (Nat.ne_of_gt (Heap.lt_size hot)) hS fun s' acc' c' hm hS' hacc => ⟨rfl, ?_⟩⟩
  rw [Moved.eq_with hm]
  refine hQ s'.heap s'.toks acc' c' (fun b o hb e => hm.heap b o (fun hmem => ?_) (Heap.get?_push_of_some _ e)) hS' hacc
  rcases List.mem_cons.mp hmem with e' | hmem
  · exact absurd (Heap.lt_size e) (by rw [e']; exact Nat.lt_irrefl _)
  · exact hb (List.mem_singleton.mp hmem)
end
end Ab

namespace Ab
open PySem PySem.Spec PyProof.Rows L2
/-! ### list(reversed(a tuple)) -/
def tLRev (K : PySem.W.Frag) (te : TE) : TE := fun σ H Q => te σ H fun v H1 => ∃ (a : Addr) (xs : List V), v = .ref a ∧ SqT K H1 a xs ∧ 0 < xs.length ∧ ∀ q, H1 q = none → Q (.ref q) (upd H1 q (.lst xs.reverse))
section
variable {X : Cx} {c : Ctx} {e a b : Expr} {es : List Expr} {A B : XE} {L : XA} {pos p p2 pos2 : Pos}
theorem pe_lRev {te : TE} (hc : X.calm = true) (hg : Gl X "list") (hm : X.mg "list" = none) (hg2 : Gl X "reversed") (hm2 : X.mg "reversed" = none) (he : PE X e te)
    (hs : starEach [e] X.env = (false, eval e X.env) :: starEach [] X.env := by rfl)
    (hs2 : starEach [.Call (.Name "reversed" p2) [e] [] pos2] X.env = (false, eval (.Call (.Name "reversed" p2) [e] [] pos2) X.env) :: starEach [] X.env := by rfl) :
    PE X (.Call (.Name "list" p) [.Call (.Name "reversed" p2) [e] [] pos2] [] pos) (tLRev X.K te) := by
  refine ⟨fun pins s σ H Q I h => ?_⟩
  refine Call_ (ld_blt I hg hm boot_list (PyProof.Rows.callWith_type1 (args_cons (Call_ (ld_blt I hg2 hm2 PyProof.Rows.boot_reversed (PyProof.Rows.callWith_type1 (args_cons (thn (he.run pins s σ H _ I h) fun u s1 ⟨v, H1, I1, r1, q1⟩ => args_nil ?_) hs) hs rfl))) hs2) hs2 rfl))
  obtain ⟨a, xs, ev, hq, h0, q⟩ := q1
  subst ev
  obtain rfl : u = Value.ref a := r1
  obtain ⟨its, rv, p', hz⟩ := I1.tuple hq
  have hl := rv.length
  have hn := line63
  refine RT.call_reversed_tup p' (fun A E Q k => len_tuple p' (by simp only [List.size_toArray] <;> omega) k) (args_nil ?_)
  obtain ⟨ot, hot, _⟩ := id p'
  have hne : a ≠ s1.heap.objs.size := Nat.ne_of_lt (Heap.lt_size hot)
  have hz' : its.toArray.size ≤ sizeLine := by rw [List.size_toArray, ← hl]; exact hz
  refine call_list_rt (s := { s1 with heap := s1.heap.push (RT.rtObj a ((its.toArray.size : Int) - 1)), toks := s1.toks + 1 + 1 }) (I1.ok.hd hc) hne hz' (by rw [List.size_toArray]; omega) ⟨_, Heap.get?_push_size _ rfl, rfl, rfl⟩ (IsTup.keep p' fun o e => Heap.get?_push_of_some _ e) fun h' tk acc c' hk hL hi => ?_
  have e1 : (s1.heap.push (RT.rtObj a ((its.toArray.size : Int) - 1))).objs.size = s1.heap.objs.size + 1 := Heap.size_push _ _
  have hfresh : H1 (s1.heap.objs.size + 1) = none := I1.hok.fresh (Nat.le_succ _)
  refine ⟨.ref (s1.heap.objs.size + 1), upd H1 (s1.heap.objs.size + 1) (.lst xs.reverse), I1.laid (t' := tk) (fun b o e => hk b o (Nat.ne_of_lt (Heap.lt_size e)) (Heap.get?_push_of_some _ e)) (Nat.le_succ _) (show ObjOk X.prog X.w _ _ _ (.lst xs.reverse) from ⟨by rw [List.length_reverse]; exact hz, acc.toList, c', RT.vals_rev rv hi, ?_⟩), ?_, q _ hfresh⟩
  · rw [← e1, Array.toArray_toList]
    exact hL
  · show Value.ref _ = Value.ref _
    rw [e1]
def aLRev (A : XE) : XE := fun Γ P => A Γ fun r => ∃ ds, r = .dat (.tuple ds) ∧ 0 < ds.length ∧ P (.new ds.reverse)
theorem dpAll_reverse {K : PySem.W.Frag} {H : Hp} : ∀ {vs : List V} {ds : List PyData}, DpAll K H vs ds → DpAll K H vs.reverse ds.reverse
  | _, _, .nil => .nil
  | _, _, .cons a t => by
    rw [List.reverse_cons, List.reverse_cons]
    exact dpAll_append (dpAll_reverse t) (.cons a .nil)
theorem ae_lRev (hc : X.calm = true) (hg : Gl X "list") (hm : X.mg "list" = none) (hg2 : Gl X "reversed") (hm2 : X.mg "reversed" = none) (he : PEa X c e A)
    (hs : starEach [e] X.env = (false, eval e X.env) :: starEach [] X.env := by rfl)
    (hs2 : starEach [.Call (.Name "reversed" p2) [e] [] pos2] X.env = (false, eval (.Call (.Name "reversed" p2) [e] [] pos2) X.env) :: starEach [] X.env := by rfl) (hK : X.K = c.K := by rfl) :
    PEa X c (.Call (.Name "list" p) [.Call (.Name "reversed" p2) [e] [] pos2] [] pos) (aLRev A) := ⟨pe_imp (pe_lRev hc hg hm hg2 hm2 he.pe hs hs2) fun σ H Q ⟨Γ, P, at_, p, k⟩ => by
  refine ⟨Γ, _, at_, p, fun v H1 r f1 at1 r1 ⟨ds, er, h0, q⟩ => ?_⟩
  subst er
  obtain ⟨x, vs, rfl, t1, d1, i1⟩ := r1.ro.tup
  rw [hK]
  refine ⟨x, vs, rfl, t1, by rw [dpAll_length d1]; exact h0, fun l hl => ?_⟩
  have f : Fx [] H1 (upd H1 l (.lst vs.reverse)) := Fx.new hl
  have ir : immAll ds.reverse = true := immAll_of fun x hx => immAll_mem i1 (List.mem_reverse.mp hx)
  have n := (at1.fresh hl).1
  exact k _ _ _ (f1.trans f.nil) (at1.ext f) (rr_new (f1.free n hl) n upd_same (dpAll_mono f.tup _ _ ir (dpAll_reverse d1)) ir) q⟩
/-! ### own list += new list -/
def sAugL (i : Nat) (A : XE) : XS := fun D Γ => ∃ ds, Γ[i]? = some (some (.own ds)) ∧ A Γ fun r => ∃ es, r = .new es ∧ ds.length + es.length ≤ sizeLine ∧ D.nx (Γ.set i (some (.own (ds ++ es))))
theorem st_augL (i : Nat) {x : Str} {pos' : Pos} (hN : X.N.Nodup) (ha : PEa X c e A) (hi : X.N[i]? = some x := by rfl) (hx : Loc X.env.scope x := by first | exact .inl rfl | exact .inr rfl)
    (hf : X.fn x = true ∨ X.env.scope.names.lookup x = some .local := by first | exact .inl rfl | exact .inr rfl | assumption) : PSt X c (.AugAssign (.Name x pos') .Add e pos) (sAugL i A) :=
  ⟨ps_imp (ps_aug (i := i) hN hi hx ha.pe iop_ext hf) fun E σ H ⟨Γ, Δ, τ, D, hl, at_, ⟨ds, eΓ, p⟩, k⟩ => by
    have il : i < Γ.length := (List.getElem?_eq_some_iff.mp eΓ).1
    obtain ⟨x, vs, h1, h2, h3, h4, h5⟩ := own_at at_ hl eΓ
    refine ⟨.ref x, h1, gE_st hl at_ p fun v H' r f a r1 ⟨es, er, hz, q⟩ => ?_⟩
    subst er
    obtain ⟨y, ws, rfl, g1, g2, g3, g4, g5⟩ := r1
    have h2' := f.keep x _ h5 h2
    refine ⟨x, y, vs, ws, rfl, rfl, h2', g3, by rw [dpAll_length h3, dpAll_length g4]; exact hz, ?_⟩
    have w := write_at a hl eΓ h1 (es := ds ++ es) (dpAll_append (dpAll_mono f.tup _ _ h4 h3) g4) (by simp [immAll_append, h4, g5])
    have es' : σ.set i (some (.ref x)) = σ := by
      apply List.ext_getElem?
      intro j
      rw [List.getElem?_set]
      by_cases hj : i = j
      · subst hj
        rw [if_pos rfl, if_pos (by omega), h1]
      · rw [if_neg hj]
    show E.nx (σ.set i (some (.ref x))) _
    rw [es']
    exact k.nx _ _ _ q (by simp [hl]) w⟩
/-! ### name = tuple[own list.pop()] -/
def sPopIx (i j k : Nat) : XS := fun D Γ => ∃ ds es n d, Γ[i]? = some (some (.own ds)) ∧ Γ[j]? = some (some (.dat (.tuple es))) ∧ ds[ds.length - 1]? = some (.int n) ∧ atI es n = some d ∧ k < Γ.length ∧ D.nx ((Γ.set i (some (.own ds.dropLast))).set k (some (.dat d)))
theorem dpAll_dropLast {K : PySem.W.Frag} {H : Hp} {vs : List V} {ds : List PyData} (h : DpAll K H vs ds) : DpAll K H vs.dropLast ds.dropLast := by
  rw [List.dropLast_eq_take, List.dropLast_eq_take, dpAll_length h]
  exact dpAll_take _ h
theorem st_popIx (i j k : Nat) {x y z : Str} {px py pz pa pc pb : Pos} (hN : X.N.Nodup) (hv : PE X (.Name x px) (tVar i)) (hw : PE X (.Name y py) (tVar j)) (hi : X.N[k]? = some z := by rfl) (hx : Loc X.env.scope z := by first | exact .inl rfl | exact .inr rfl)
    (hb : attributeBase (.Name x px) "pop" X.env (eval (.Name x px) X.env) = eval (.Name x px) X.env := by rfl) (hline : (pa.endLine == pc.line) = true := by rfl)
    (hs : swapsWith (.Subscript (.Name y py) (.Call (.Attribute (.Name x px) "pop" pa) [] [] pc) pb) (some (.Name z pz)) pos.line X.env = pure false := by rfl)
    (hix : PlainIx (.Call (.Attribute (.Name x px) "pop" pa) [] [] pc) := by exact fun _ _ => rfl)
    (hf : X.fn z = true ∨ X.env.scope.names.lookup z = some .local := by first | exact .inl rfl | exact .inr rfl | assumption) (hK : X.K = c.K := by rfl) :
    PSt X c (.Assign [.Name z pz] (.Subscript (.Name y py) (.Call (.Attribute (.Name x px) "pop" pa) [] [] pc) pb) pos) (sPopIx i j k) :=
  ⟨ps_imp (ps_set (i := k) hN hi hx (pe_ix ix_seq hw (pe_bm0 PySem.F.plainAttrs_list PySem.F.slot_list_pop PySem.F.type_list_pop mt_pop hv hb hline) hix) hs hf) fun E σ H ⟨Γ, Δ, τ, D, hl, at_, ⟨ds, es, n, d, eΓ, eJ, en, ed, hk, q⟩, kk⟩ => by
    obtain ⟨x, vs, h1, h2, h3, h4, h5⟩ := own_at at_ hl eΓ
    obtain ⟨u, g1, g2⟩ := (at_.left hl).slot j _ eJ
    obtain ⟨t, ws, rfl, t1, d1, i1⟩ := (show RO c H u (.dat (.tuple es)) from ⟨H, g2⟩).tup
    obtain ⟨v, hv, dv⟩ := dpAll_get h3 en
    cases dv
    have w := write_at at_ hl eΓ h1 (es := ds.dropLast) (dpAll_dropLast h3) (by rw [List.dropLast_eq_take]; exact immAll_take _ h4)
    have tx : TEx H (upd H x (.lst vs.dropLast)) := tex_lst h2
    obtain ⟨v2, hv2, dv2⟩ := dpAll_atI (dpAll_mono tx _ _ i1 d1) ed
    rw [hK]
    refine ⟨.ref t, g1, .ref x, h1, .inl ⟨rfl, _, SqL.of h2⟩, x, vs, .int n, rfl, rfl, h2, by rw [dpAll_length h3]; exact hv, .inr (.inl ⟨t, ws, n, v2, rfl, rfl, sqT_keep tx t1, hv2, ?_⟩)⟩
    have s1 := store_at (i := k) (v := v2) (r := .dat d) w w (by simp [hl]) (rr_dat ⟨dv2, immAll_mem i1 (atI_mem ed)⟩) rfl (by simpa using hk)
    exact kk.nx _ _ _ q (by simp [hl]) s1⟩
/-! ### a text in a dict of the module -/
def KMem (K : PySem.W.Frag) (w : World) (a : Addr) (mem : List (Str × Bool)) : Prop := ∃ es n, KDict K w a es n ∧ ∀ p ∈ mem, ∃ r, PySem.W.nsIn K a p.1 = some r ∧ r.isSome = p.2
def aRef (a : Addr) : XE := fun Γ P => P (.obj (isRef a))
theorem ae_gref {x : Str} {t : Addr} (hg : Gl X x) (hm : X.mg x = some (.ref t)) (hdb : (x == ("__debug__" : Str)) = false := by decide) : PEa X c (.Name x pos) (aRef t) :=
  ⟨pe_imp (pe_glob (v := .ref t) hg hm rfl hdb) fun σ H Q ⟨Γ, P, at_, p, k⟩ => k (.ref t) H _ (Fx.refl H) at_ (show RR c H H (.ref t) (.obj (isRef t)) from rfl) p⟩
def oInM (mem : List (Str × Bool)) : XO := fun x y P => ∃ z b, x = .dat (.str z) ∧ (z, b) ∈ mem ∧ P (.dat (.bool b))
theorem oa_inM {t : Addr} {mem : List (Str × Bool)} (h : KMem X.K X.w t mem) : OpA X c (compareOp .In) (fun x y P => y = .obj (isRef t) ∧ oInM mem x y P) := by
  obtain ⟨es, n, kd, hm⟩ := h
  exact ⟨opR_imp (op_in_kd kd) fun x y H Q ⟨rx, ry, P, _, r1, r2, ⟨e2, z, b, e1, hz, p⟩, k⟩ => by
    subst e1 e2
    obtain ⟨r, hr, hb⟩ := hm _ hz
    obtain ⟨_, r2⟩ := r2
    refine ⟨z, r, r1.str, r2, hr, ?_⟩
    rw [hb]
    exact k _ H _ (Fx.refl H) (rr_bl _) p⟩
theorem ref_iff {t : Addr} {p : V → Prop} {P : Prop} : (RV.obj p = .obj p ∧ P) = P := by simp
/-! ### a block cut in two: between them only what Mid keeps -/
def sCut (S U : XS) : XS := fun D Γ => ∃ Mid : Gam → Prop, S { D with nx := Mid } Γ ∧ ∀ Γ', Mid Γ' → U D Γ'
theorem ss_cut {st : Stmt} {rest : List Stmt} {S U : XS} (h1 : PSt X c st S) (h2 : PSts X c rest U) : PSts X c (st :: rest) (sCut S U) :=
  ⟨pss_imp (pss_cons h1.ps h2.ps) fun E σ H ⟨Γ, Δ, τ, D, hl, at_, ⟨Mid, p, m⟩, k⟩ => ⟨Γ, Δ, τ, { D with nx := Mid }, hl, at_, p, ⟨fun Γ' σ' H' p' hl' a' => ⟨Γ', Δ, τ, D, hl', a', m Γ' p', k⟩, k.bk, k.ct, k.rt⟩⟩⟩
end
end Ab

/-! an own error over ValueError (through own classes) whose __init__ says super().__init__(f'..') and keeps one field -/
namespace SupX
open PySem PySem.W PySem.Calls PyProof.Rows PySem.HandSPX
/-! ### ValueError.__init__ bound to an instance -/
abbrev bwV (x : Addr) : Obj := { cls := .type "method-wrapper", dict := none, data := .fields #[.builtin "ValueError.__init__", .ref x], slots := #[] }
theorem type_vi : typeOf (.builtin "ValueError.__init__") = pure (.type "wrapper_descriptor") := by show builtinType _ = _; rw [builtinType_eq_fast]; kernel_rfl
theorem args_wdV (b c : Value) : argsOk "wrapper_descriptor.__get__" ⟨[.builtin "ValueError.__init__", b, c], []⟩ := by unfold argsOk; kernel_rfl
theorem nacV : (kfb_private% "nameAndClass") (Value.builtin "ValueError.__init__") = (pure (("__init__" : Str), Value.type "ValueError") : Sem (Str × Value)) := by kernel_rfl
section
variable {prog : Program} {w : World} {M : Model} {A : Around} {E : Value → Shared → Prop} {h : Heap} {g : Array GenState} {d : Drawn} {t : Nat} {os : OsState}
theorem run_wdV {x C : Addr} {P : Fin → Shared → Prop} (hin : W.Looks M h (isInstance (.ref x) (.type "ValueError")) true) (hq : P (.done (.ret (.ref h.objs.size))) ⟨h.push (bwV x), g, d, t, os⟩) :
    wpAny M A (Builtin.«wrapper_descriptor.__get__» ⟨[.builtin "ValueError.__init__", .ref x, .ref C], []⟩) P E ⟨h, g, d, t, os⟩ := by
  unfold Builtin.«wrapper_descriptor.__get__»
  refine wpAny_bind (wpAny_of_eq (a := (.builtin "ValueError.__init__", some (.ref x), some (.ref C))) (by first | rfl | kernel_rfl) ?_)
  show wpAny M A ((kfb_private% "checkInstance") (.builtin "ValueError.__init__") (.ref x) >>= fun _ => newFields "method-wrapper" [.builtin "ValueError.__init__", .ref x] >>= fun r => ret r) P E _
  refine wpAny_bind ?_
  show wpAny M A ((kfb_private% "nameAndClass") (.builtin "ValueError.__init__") >>= _) _ E _
  refine wpAny_bind (wpAny_of_eq nacV ?_)
  show wpAny M A (isInstance (.ref x) (.type "ValueError") >>= _) _ E _
  refine wpAny_bind (hin.at ?_)
  refine KFB.if_not rfl ?_
  refine wpAny_pure ?_
  exact wpAny_bind (wpAny_newObj_type (wpAny_pure hq))
theorem super_gaV {so D x C : Addr} {l₀ l : List Value} {K : Frag} {name : Str} {tk : Tok} {Q : Fin → Shared → Prop}
    (hso : h.get? so = some { cls := .type "super", dict := none, data := .fields #[.ref D, .ref x, .ref C], slots := #[] }) (hno : W.Looks (model prog w) h (opaqueClassAbove (.ref C)) none)
    (hC : W.Looks (model prog w) h (mroOf (.ref C)) l₀) (hl : (l₀.dropWhile (· != .ref D)).drop 1 = l) (X : K.In h)
    (hf : alongIn K name l = some (some (.builtin "ValueError.__init__"))) (hxC : x ≠ C) (hn : (name == ("__class__" : Str)) = false) (hin : W.Looks (model prog w) h (isInstance (.ref x) (.type "ValueError")) true)
    (hq : Q (.done (.ret (.ref h.objs.size))) ⟨h.push (bwV x), g, d, t, os⟩) :
    wpAny (model prog w) A (Builtin.«super.__getattribute__» ⟨[.ref so, .str name tk], []⟩) Q E ⟨h, g, d, t, os⟩ := by
  have hlk := ESX.slot_wd.lookup
  have hne : (Value.ref x == Value.ref C) = false := by simp [hxC]
  have hTf := type_vi
  have hTi : Shared.TypeIs ⟨h, g, d, t, os⟩ (.builtin "ValueError.__init__") "wrapper_descriptor" := type_vi
  have hdt : ({ cls := .type "super", dict := none, data := .fields #[.ref D, .ref x, .ref C], slots := #[] } : Obj).data = .fields #[.ref D, .ref x, .ref C] := rfl
  have f0 : (#[.ref D, .ref x, .ref C] : Array Value)[0]? = some (.ref D) := rfl
  have f1 : (#[.ref D, .ref x, .ref C] : Array Value)[1]? = some (.ref x) := rfl
  have f2 : (#[.ref D, .ref x, .ref C] : Array Value)[2]? = some (.ref C) := rfl
  unfold Builtin.«super.__getattribute__»
  repeat (first
    | (with_reducible refine wpAny_field hso hdt f0 ?_) | (with_reducible refine wpAny_field hso hdt f1 ?_) | (with_reducible refine wpAny_field hso hdt f2 ?_)
    | (with_reducible refine ks_wpAny_notOpaque hno ?_)
    | (with_reducible refine Looks.at hC ?_; rw [hl])
    | (refine ks_forIn_along X (fun _ _ => rfl) rfl ?_ hf)
    | (with_reducible refine wpAny_call_entry ESX.slot_wd hTi ESX.entry_wd ?_ (args_wdV _ _))
    | (with_reducible refine run_wdV hin ?_)
    | (with_reducible refine ⟨_, rfl, ?_⟩)
    | (simp only [hn, hne, Bool.or_false, Bool.false_eq_true, if_false])
    | wp_step
    | dsimp only)
  all_goals exact hq
theorem getMethod_superV {so D x C : Addr} {l₀ l : List Value} {K : Frag} {name : Str} {pl : Sem Bool} {Q : Value × List Value → Shared → Prop}
    (hso : h.get? so = some { cls := .type "super", dict := none, data := .fields #[.ref D, .ref x, .ref C], slots := #[] }) (hno : W.Looks (model prog w) h (opaqueClassAbove (.ref C)) none)
    (hC : W.Looks (model prog w) h (mroOf (.ref C)) l₀) (hl : (l₀.dropWhile (· != .ref D)).drop 1 = l) (X : K.In h)
    (hf : alongIn K name l = some (some (.builtin "ValueError.__init__"))) (hxC : x ≠ C) (hn : (name == ("__class__" : Str)) = false) (hin : W.Looks (model prog w) h (isInstance (.ref x) (.type "ValueError")) true)
    (hq : Q (.ref h.objs.size, []) ⟨h.push (bwV x), g, d, t + 1, os⟩) :
    wpAny (model prog w) A (getMethod (.ref so) name pl) Q E ⟨h, g, d, t, os⟩ := by
  have hlk := F.ks_slot_super_ga.lookup
  have hcan := F.ks_canon_super_ga
  have hT : ∀ t', (⟨h, g, d, t', os⟩ : Shared).TypeIs (.ref so) "super" := fun _ => ⟨_, hso, rfl⟩
  unfold getMethod
  refine wpAny_bind (wpAny_specialOf (hT _) hlk ?_)
  show wpAny _ _ (if (Manifest.canonical "super.__getattribute__" != "object.__getattribute__") = true then _ else _) _ _ _
  rw [if_pos hcan]
  unfold getAttr getAttrBy
  refine wpAny_bind (wpAny_bind (wpAny_mkText (wpAny_holding (wpAny_bind (wpAny_typeOf (hT _) (wpAny_bind (wpAny_of_eq hlk ?_)))))))
  show wpAny _ _ (getAttrByItsOwn (.ref so) (.str name t) (.type "super") (.builtin "super.__getattribute__") true false) _ _ _
  unfold getAttrByItsOwn hookBefore callGetattribute boundAndCalled
  refine wpAny_bind (wpAny_of_eq (show (if onTheHeap (.type "super") then typeLookup (.type "super") "__getattr__" else pure none) = pure none from rfl) ?_)
  refine wpAny_bind (wpAny_attempt (wpAny_holding ?_))
  show wpAny _ _ (bindSpecial (.builtin "super.__getattribute__") (.ref so) >>= _) _ _ _
  refine wpAny_bind (wpAny_of_eq (F.ks_slot_super_ga.bind _) ?_)
  refine wpAny_mono (Q := fun v s' => v = .ref h.objs.size ∧ s' = ⟨h.push (bwV x), g, d, t + 1, os⟩) (E := fun _ _ => False)
    (wpAny_call_entry F.ks_slot_super_ga (hT _) F.ks_entry_super_ga (super_gaV hso hno hC hl X hf hxC hn hin ⟨_, rfl, rfl, rfl⟩) (F.ks_gaArgs_super _ _)) (fun v s' hv => ?_) fun _ _ z => z.elim
  obtain ⟨rfl, rfl⟩ := hv
  exact wpAny_pure (wpAny_pure hq)
end
section
variable {prog : Program} {w : World} {M : Model} {A : Around} {E : Value → Shared → Prop} {s : Shared}
theorem callWith_bwV {pos : Pos} {u x : Addr} {first : List Value} {args : List (Bool × Sem Value)} {Q : Value → Shared → Prop} (hplain : args.any (·.1) = false)
    (h : wpAny M A (evalArgs (.ref u) true args []) (fun a s₁ => s₁.heap.get? u = some (bwV x) ∧ wpAny M A (call (.ref u) (first ++ a.pos) a.kw) Q E s₁) E s) : wpAny M A (callWith pos (.ref u) first args []) Q E s := by
  unfold callWith
  refine wpAny_bind (wpAny_holding (wpAny_mono h (fun a s₁ h₁ => wpAny_bind (wpAny_standAt ?_)) fun _ _ x => x))
  obtain ⟨ho, hcall⟩ := h₁
  simp only [hplain, List.any_nil, Bool.or_false]
  refine wpAny_bind (m := keeperOf (.ref u)) ?_
  unfold keeperOf
  refine wpAny_bind (wpAny_load ho ?_)
  simp only [bwV, show (Value.type "method-wrapper" != Value.type "method") = true by decide, show (Value.type "method-wrapper" == Value.type "builtin_function_or_method" || Value.type "method-wrapper" == Value.type "method-wrapper") = true by decide, if_true]
  refine wpAny_pure ?_
  exact wpAny_bind (wpAny_mono hcall (fun r s₂ hr => wpAny_bind (wpAny_holding (wpAny_point (wpAny_pure hr)))) fun _ _ x => x)
theorem callWith_boundV {pos : Pos} {u x : Addr} {first : List Value} {env : Env} {e : Expr} {rest : List Expr} {Q : Value → Shared → Prop}
    (h : wpAny M A (spliced (backTo pos (starEach (e :: rest) env))) (fun vs s₁ => s₁.heap.get? u = some (bwV x) ∧ wpAny M A (call (.ref u) (first ++ vs)) Q E s₁) E s)
    (he : starEach (e :: rest) env = (false, eval e env) :: starEach rest env := by rfl) (hplain : (backTo pos (starEach rest env)).any (·.1) = false := by rfl) :
    wpAny M A (callWith pos (.ref u) first (backTo pos (starEach (e :: rest) env)) []) Q E s := by
  rw [he] at h ⊢
  refine callWith_bwV (x := x) (by show (false || (backTo pos (starEach rest env)).any (·.1)) = false; rw [hplain]; rfl) ?_
  exact evalArgs_plain h
end
section
variable {prog : Program} {w : World} {A : Around} {E : Value → Shared → Prop} {h : Heap} {g : Array GenState} {d : Drawn} {t : Nat} {os : OsState}
variable {nm q : Str} {C N : Addr} {bs bm : List Value} {hdct : Bool} {sn : List Str} {sub : List Value} {ab : Bool} {col : Option Bool} {dd : Option Addr} {k0 k1 k2 k3 k5 : Option Value}
theorem call_bwV {u e t0 : Addr} {rest : List Value} {Q : Value → Shared → Prop}
    (hC : h.get? C = some (excClassObj nm q C N bs bm hdct sn sub ab col dd k0 k1 k2 k3 k5 "ValueError.__new__")) (he : h.get? e = some (excO C t0)) (hu : h.get? u = some (bwV e)) (hrest : rest.length ≤ sizeLine)
    (hq : ∀ h' t1, (∀ b o, b ≠ e → h.get? b = some o → h'.get? b = some o) → h'.get? e = some (excO C t1) → Q .none ⟨h', g, d, t, os⟩) :
    wpAny (model prog w) A (call (.ref u) rest) Q E ⟨h, g, d, t, os⟩ := by
  refine wpAny_call (codeAny_of_tree ?_)
  show wpAny _ A.in1 (callAny (.ref u) ⟨rest, []⟩) _ _ _
  simp only [callAny]
  refine wpAny_bind (wpAny_load hu ?_)
  simp only [bwV, show (Value.type "method-wrapper" == Value.type "method" || Value.type "method-wrapper" == Value.type "builtin_function_or_method" || Value.type "method-wrapper" == Value.type "method-wrapper") = true by decide, if_true]
  refine W.KFB.if_so (by decide) ?_
  refine wpAny_bind (ESX.check_bound F.excBase_ValueError hC he rfl ?_)
  refine wpAny_bind (wpAny_pure (wpAny_pure ?_))
  refine ⟨Code.quiet_builtin _ (by decide +kernel), codeAny_builtin F.excBase_ValueError.initEntry ?_⟩
  rw [Around.under_plainId F.excBase_ValueError.init.plain _]
  wp_walk
  refine hq _ h.objs.size (fun b o hb ho => ?_) ?_
  · rw [Heap.get?_update_other _ _ (Ne.symm hb)]
    exact Heap.get?_push_of_some _ ho
  · rw [Heap.get?_update_self _ (Heap.get?_push_of_some _ he) rfl]
    rfl
end
end SupX

namespace SupX
open PySem PySem.W PySem.Calls PyProof.Rows PySem.HandSPX
/-! ### the text of __init__ -/
def iA (p1 p2 : Pos) : Arguments := { posonlyargs := [], args := [{ arg := "self", annotation := none, pos := p1 }, { arg := "number", annotation := none, pos := p2 }], vararg := none, kwonlyargs := [], kw_defaults := [], kwarg := none, defaults := [] }
def jB : Expr := .JoinedStr [.Constant (.str "word ") 0 ⟨9, 27, 9, 32⟩, .FormattedValue (.Name "number" ⟨9, 33, 9, 39⟩) (-1) none ⟨9, 32, 9, 40⟩, .Constant (.str " cannot be read") 0 ⟨9, 40, 9, 55⟩] ⟨9, 25, 9, 56⟩
def iB : List Stmt := [.Expr (.Call (.Attribute (.Call (.Name "super" ⟨9, 8, 9, 13⟩) [] [] ⟨9, 8, 9, 15⟩) "__init__" ⟨9, 8, 9, 24⟩) [jB] [] ⟨9, 8, 9, 57⟩) ⟨9, 8, 9, 57⟩, .Assign [.Attribute (.Name "self" ⟨10, 8, 10, 12⟩) "number" ⟨10, 8, 10, 19⟩] (.Name "number" ⟨10, 22, 10, 28⟩) ⟨10, 8, 10, 28⟩]
def iS : Scope := { kind := .function, names := [(PySem.Str.ofString "self", .local), (PySem.Str.ofString "number", .local), (PySem.Str.ofString "__class__", .free), (PySem.Str.ofString "super", .globalImplicit)], isGenerator := false, isCoroutine := false, more := [] }
/-- what the written part says of the class at C and of its __init__, at fI -/
structure SupTxt (prog : Program) (K : Frag) (C fI : Addr) : Prop where
  cls : ∃ nm q N bs bm sn sub ab col dd k0 k1 k2 k3 k5, K.lookup C = some (excClassObj nm q C N bs bm true sn sub ab col dd k0 k1 k2 k3 k5 "ValueError.__new__") ∧ refsVE bm = true ∧ alongIn K "__init__" bm = some (some (.builtin "ValueError.__init__"))
  sa : findIn K (.ref C) "__setattr__" = some (some (.builtin "object.__setattr__"))
  ga : findIn K (.ref C) "__getattribute__" = some (some (.builtin "BaseException.__getattribute__"))
  gg : findIn K (.ref C) "__getattr__" = some none
  noN : findIn K (.ref C) "number" = some none
  iC : findIn K (.ref C) "__init__" = some (some (.ref fI))
  tC : typeIn K (.ref fI) = some (.type "function")
  kC : keepIn K (.ref C) = true
  exC : subIn K (.ref C) (.type "BaseException") = some true
  tyC : typeIn K (.ref C) = some (.type "type")
  hdC : hasDictIn K C = true
  own : mroIn K C (.ref C) = some true
  opq : nsIn K cStatics "thirdparty.any" = some none
  fn : ∃ (oc : Value) (od : Option Addr) (doc pm : Value) (an : Option Addr) (cda cc : Addr) (ct : Value) (osl : Array (Option Value)) (p1 p2 : Pos),
    K.lookup fI = some ⟨oc, od, .func (ksFn "__init__" "InvalidWord.__init__" (iA p1 p2) iB iS .none .none doc pm an (.ref cda) ct cc), osl⟩ ∧ codeIn K (.ref cda) "InvalidWord.__init__" = true ∧
    (∃ cl cld csl, K.lookup cc = some ⟨cl, cld, .cell (some (.ref C)), csl⟩) ∧ ∃ ccl cdd vs ccs file tf, K.lookup cda = some ⟨ccl, cdd, .fields vs, ccs⟩ ∧ vs[2]? = some (.str file tf) ∧ ((prog.main.file : Str) == file) = true
  top : (prog.main.scope.names.lookup ("super" : Str)).isSome = false
/-- what __init__ leaves of a fresh exception at x -/
structure InitEnd (h h' : Heap) (x C dx t1 : Addr) (v : Value) : Prop where
  keep : ∀ b o, b ≠ x → h.get? b = some o → h'.get? b = some o
  obj : h'.get? x = some { cls := .ref C, dict := some dx, data := .fields #[.ref t1, .none, .none, .none, .bool false, .none] }
  dbig : h.objs.size ≤ dx
  dne : dx ≠ x
  ns : h'.Ns1 dx (fun y => if y = "number" then some v else none)
theorem one_size (v : Value) : [v].length ≤ sizeLine := by
  rw [sizeLine_eq]
  exact (by decide : 1 ≤ 16777216)
section
variable {prog : Program} {w : World} {A : Around} {E : Value → Shared → Prop} {R : Result → Shared → Prop} {s : Shared} {K : Frag} {mg mb : Str → Option Value} {C fI : Addr}
theorem sup_init (T : SupTxt prog K C fI) (hmg : mg "super" = none) (hmb : mb "super" = some (.type "super")) {x t0 : Addr} {i : Int} {ti : Tok} (G : s.heap.Ns mainGlobals mg) (B : s.heap.Ns builtinsNs mb) (X : K.In s.heap) (hlim : s.heap.NoLimit)
    (hx : s.heap.get? x = some (excO C t0)) (hnx : K.lookup x = none) (hi : i.natAbs.log2 < 1920) (hroom : A.depth < recursionLimit)
    (hq : ∀ h' tk dx t1, InitEnd s.heap h' x C dx t1 (.int i ti) → R (.ok (.ret .none)) { s with heap := h', toks := tk }) :
    codeAny (model prog w) A (.call (.ref fI) ⟨[.ref x, .int i ti], []⟩) R s := by
  obtain ⟨oc, od, doc, pm, an, cda, cc, ct, osl, p1, p2, ho, hcd, ⟨cl, cld, csl, hcell⟩, ccl, cdd, vs, ccs, file, tf, hcode, hvs, hfile⟩ := T.fn
  obtain ⟨nm, q, N, bs, bm, sn, sub, ab, col, dd, k0, k1, k2, k3, k5, hC, hbm, hal⟩ := T.cls
  have hcl : clsIn K C = some { name := nm, bases := bs, mro := .ref C :: bm, ns := N, qualname := q, hasDict := true, slotNames := sn, subclasses := sub, abstract := ab, collection := col, hasDel := false } := by unfold clsIn; rw [hC] <;> rfl
  refine ks_codeAny_call_defAt (fd := ksFn "__init__" "InvalidWord.__init__" (iA p1 p2) iB iS .none .none doc pm an (.ref cda) ct cc) (binds := [("self", .ref x), ("number", .int i ti)]) hroom (X _ _ ho) rfl hlim (codeRec_of X hcd) rfl (BindsTo.of_eq (by first | rfl | with_unfolding_all rfl)) (fun y hy => ?_) (fun y hy => ?_) (fun h₁ hns k => ?_)
  · simp only [iS, List.mem_cons, List.not_mem_nil, or_false] at hy
    rcases hy with rfl | rfl | rfl | rfl <;> exact fun z => by cases z
  · simp only [List.mem_cons, List.not_mem_nil, or_false] at hy
    rcases hy with rfl | rfl <;> rfl
  have hx₁ := k _ _ hx
  have X₁ : K.In h₁ := X.keeps k
  have G₁ := G.keeps k
  have B₁ := B.keeps k
  have hxL : s.heap.objs.size ≠ x := Nat.ne_of_gt (Heap.lt_size hx)
  have big : s.heap.objs.size < h₁.objs.size := hns.lt
  obtain ⟨hh, g, d, t, os⟩ := s
  dsimp only at *
  refine ks_wpAt_execs_cons (ks_wpAt_Expr_any (ks_wpAt_MethodCall ?_))
  refine ks_wpAt_super_base (ar := { arg := "self", annotation := none, pos := p1 }) rfl rfl (by decide) rfl (X₁ _ _ ho) rfl rfl rfl (X₁ _ _ hcode) rfl hvs hfile T.top ?_
  refine ks_loadName_global rfl rfl (loadGlobal_builtin G₁ hmg B₁ hmb ⟨rfl, ?_⟩)
  refine wpAny_loadName_free rfl rfl rfl ⟨_, X₁ _ _ hcell, rfl⟩ ?_
  refine wpAny_loadName_local rfl rfl hns (v := .ref x) (by first | rfl | with_unfolding_all rfl | kernel_rfl) ?_
  have hCo := X₁ _ _ hC
  refine ks_wpAny_isType_cls hCo rfl ⟨rfl, ?_⟩
  refine ks_wpAny_call_super hCo rfl hx₁ rfl (fun c e => by cases e) (looks_mroIn X₁ T.own) (fun h₂ e2 kk2 => ?_)
  have k2 : ∀ b o, hh.get? b = some o → h₂.get? b = some o := fun b o e => kk2 b o (k b o e)
  have X₂ : K.In h₂ := X.keeps k2
  have hx₂ := k2 _ _ hx
  have hC₂ := X₂ _ _ hC
  have big2 : h₁.objs.size < h₂.objs.size := Heap.lt_size e2
  have ne : (Value.ref C :: bm).isEmpty = false := rfl
  have hVE : (Value.ref C :: bm).contains (.type "ValueError") = true := (refsVE_contains "ValueError" _ (show refsVE (.ref C :: bm) = true from hbm)).trans (by decide +kernel)
  have I₂ : InstAt h₂ x (excO C t0) C none := ⟨hx₂, rfl, rfl, trivial⟩
  have hin : W.Looks (model prog w) h₂ (isInstance (.ref x) (.type "ValueError")) true := I₂.type.andThen (looks_mroIn X₂ (by unfold mroIn; rw [hcl, Option.bind_some, if_neg (by rw [ne]; decide), hVE]))
  refine getMethod_superV e2 (looks_opaque X₂ T.opq) (l₀ := .ref C :: bm) (fun A Q E s k q => wpAny_bind ((looks_clsIn X₂ hcl) A _ E s k (wpAny_pure q))) (ESX.drop_own C bm) X₂ hal (ks_ne X₂ I₂ hcl) (by decide) hin ?_
  refine callWith_boundV (x := x) ?_
  refine spliced_more ?_
  have hns₂ : ({ heap := h₂.push (bwV x), gens := g, drawn := d, toks := t + 2 + 1, os := os } : Shared).heap.Ns hh.objs.size (fun y => List.lookup y (([("self", Value.ref x), ("number", Value.int i ti)] : List (Str × Value)).reverse)) := hns.keeps fun b o e => Heap.get?_push_of_some _ (kk2 b o e)
  have hz : (Str.ofString (toString i)).length ≤ 10000 := by
    have e := int_text_length_le (k := 1920) (by decide) hi
    rw [PySem.ofString_length]
    omega
  have l1 : (Str.empty ++ ("word " : Str)).length = 5 := by decide +kernel
  have l2 : (" cannot be read" : Str).length = 15 := by decide +kernel
  refine wpAny_JoinedStr ?_
  show Joins _ _ _ [eval _ _, eval _ _, eval _ _] _ _ _
  refine wpAny_Constant_str ⟨_, _, rfl, by rw [sizeLine_eq]; decide +kernel, wpAny_FormattedValue_plain (wpAny_Name (wpAny_loadName_local rfl rfl hns₂ (v := .int i ti) (by first | rfl | with_unfolding_all rfl | kernel_rfl) (wpAny_formatField_int hi ⟨_, _, rfl, ?_, wpAny_Constant_str ⟨_, _, rfl, ?_, ?_, ?_⟩⟩)))⟩
  · rw [Str.length_append, l1, sizeLine_eq]
    omega
  · rw [Str.length_append, Str.length_append, l1, l2, sizeLine_eq]
    omega
  · rw [Str.length_append, Str.length_append, l1, l2, sizeLine_eq]
    omega
  refine spliced_none ?_
  have hbw : (h₂.push (bwV x)).get? h₂.objs.size = some (bwV x) := Heap.get?_push_at rfl rfl
  have k3 : ∀ b o, h₂.get? b = some o → (h₂.push (bwV x)).get? b = some o := fun b o e => Heap.get?_push_of_some _ e
  refine ⟨hbw, call_bwV (k3 _ _ hC₂) (k3 _ _ hx₂) hbw (one_size _) fun h₄ t4 k4 hx₄ => ?_⟩
  show PySem.wpAt _ _ _ (execs _ _) _ _ _
  have nx : ∀ b o, K.lookup b = some o → b ≠ x := fun b o e z => by rw [z, hnx] at e; cases e
  have k5 : ∀ b o, b ≠ x → hh.get? b = some o → h₄.get? b = some o := fun b o n e => k4 b o n (k3 b o (k2 b o e))
  have X₄ : K.In h₄ := fun b o e => k5 b o (nx b o e) (X b o e)
  have hns₄ : h₄.Ns hh.objs.size (fun y => List.lookup y (([("self", Value.ref x), ("number", Value.int i ti)] : List (Str × Value)).reverse)) := by
    obtain ⟨oL, es, ep, hL, r⟩ := hns
    exact ⟨oL, es, ep, k4 _ _ hxL (k3 _ _ (kk2 _ _ hL)), r⟩
  refine wpAt_of_wpAny (wpAny_execs_cons (plainObj_wpAny_Assign_Attribute ?_))
  refine wpAny_Name (wpAny_loadName_local rfl rfl hns₄ (v := .int i ti) (by first | rfl | with_unfolding_all rfl | kernel_rfl) ?_)
  refine wpAny_Name (wpAny_loadName_local rfl rfl hns₄ (v := .ref x) (by first | rfl | with_unfolding_all rfl | kernel_rfl) ?_)
  refine set_plain X₄ (ox := excO C t4) (od := none) ⟨hx₄, rfl, rfl, trivial⟩ T.sa ?_
  refine exc_osa X₄ hx₄ hcl (show refsVE (.ref C :: bm) = true from hbm) rfl T.noN (fun h₅ tk₅ dx k₅ dn dne hx₅ hn₅ => ?_)
  show wpAny _ _ (execs _ _) _ _ _
  have z : hh.objs.size < h₄.objs.size := hns₄.lt
  exact wpAny_execs_nil (hq h₅ tk₅ dx t4 ⟨fun b o hb e => k₅ b o hb (k5 b o hb e), hx₅, Nat.le_of_lt (Nat.lt_of_lt_of_le z dn), dne, hn₅⟩)
end
end SupX

namespace SupX
open PySem PySem.W PySem.Calls PyProof.Rows PySem.HandSPX
/-- a made error -/
structure OwnMade (h h' : Heap) (e C d : Addr) (v : Value) : Prop where
  keep : ∀ b o, h.get? b = some o → h'.get? b = some o
  new : h.objs.size ≤ e
  obj : ∃ oe vs, h'.get? e = some oe ∧ oe.cls = .ref C ∧ oe.dict = some d ∧ oe.data = .fields vs ∧ vs[1]? = some .none
  dbig : h.objs.size ≤ d
  dne : d ≠ e
  ns : h'.Ns1 d (fun y => if y = "number" then some v else none)
section
variable {prog : Program} {w : World} {A : Around} {E : Value → Shared → Prop} {R : Result → Shared → Prop} {s : Shared} {K : Frag} {mg mb : Str → Option Value} {C fI : Addr}
theorem sup_made (T : SupTxt prog K C fI) (hmg : mg "super" = none) (hmb : mb "super" = some (.type "super")) {i : Int} {ti : Tok} (G : s.heap.Ns mainGlobals mg) (B : s.heap.Ns builtinsNs mb) (X : K.In s.heap) (hlim : s.heap.NoLimit)
    (hi : i.natAbs.log2 < 1920) (hroom : A.depth + 1 < recursionLimit)
    (hq : ∀ h' tk e d, OwnMade s.heap h' e C d (.int i ti) → R (.ok (.ret (.ref e))) { s with heap := h', toks := tk }) :
    codeAny (model prog w) A (.call (.ref C) ⟨[.int i ti], []⟩) R s := by
  obtain ⟨nm, q, N, bs, bm, sn, sub, ab, col, dd, k0, k1, k2, k3, k5, hC, hbm, _⟩ := T.cls
  obtain ⟨hp, g, dr, tk, os⟩ := s
  have k : ∀ b o, hp.get? b = some o → ((hp.push (kdv_tup [.int i ti])).push (excO C hp.objs.size)).get? b = some o := fun b o e => Heap.get?_push_of_some _ (Heap.get?_push_of_some _ e)
  have hget : ((hp.push (kdv_tup [.int i ti])).push (excO C hp.objs.size)).get? (hp.objs.size + 1) = some (excO C hp.objs.size) := by heap_get
  have hnx : K.lookup (hp.objs.size + 1) = none := by
    cases e : K.lookup (hp.objs.size + 1) with
    | none => rfl
    | some o =>
      have z : hp.get? (hp.objs.size + 1) = some o := X _ _ e
      exact absurd (Nat.lt_of_succ_lt (Heap.lt_size z)) (Nat.lt_irrefl _)
  refine call_own F.excBase_ValueError (fun Y => refsVE_contains Y bm hbm) (X _ _ hC) (looks_findIn X T.iC) (fun self => bind_fn X self T.tC) (one_size _) ?_
  refine sup_init (s := ⟨(hp.push (kdv_tup [.int i ti])).push (excO C hp.objs.size), g, dr, tk, os⟩) T hmg hmb (G.keeps k) (B.keeps k) (X.keeps k) (hlim.keeps k) hget hnx hi ?_ fun h' tk' dx t1 ⟨k', hx, dn, dne, hns⟩ => ?_
  · show A.depth + 1 < recursionLimit
    exact hroom
  · have old : ∀ b o, hp.get? b = some o → h'.get? b = some o := fun b o e => k' b o (Nat.ne_of_lt (Nat.lt_succ_of_lt (Heap.lt_size e))) (k b o e)
    have z : hp.objs.size + 1 + 1 ≤ dx := by
      first
        | (simpa only [Heap.size_push] using dn)
        | exact dn
        | (have q := dn; rw [Heap.size_push, Heap.size_push] at q; exact q)
    exact ⟨rfl, hq h' tk' (hp.objs.size + 1) dx ⟨old, Nat.le_succ _, ⟨_, _, hx, rfl, rfl, rfl, rfl⟩, Nat.le_trans (Nat.le_trans (Nat.le_succ _) (Nat.le_succ _)) z, dne, hns⟩⟩
end
end SupX
namespace L2
open PySem PySem.Spec PyProof.Rows
theorem relO_num {v : V} {v' : Value} (r : RelV v v') (f : Str) : RelO (List.lookup f [(("number" : Str), v)]) (if f = "number" then some v' else none) := by
  by_cases hw : f = "number"
  · subst hw
    rw [if_pos rfl]
    have q : List.lookup ("number" : Str) [(("number" : Str), v)] = some v := by simp [List.lookup]
    rw [q]
    exact r
  · rw [if_neg hw]
    have qw : (f == ("number" : Str)) = false := by simpa using hw
    have q2 : List.lookup f [(("number" : Str), v)] = none := by simp [List.lookup, qw]
    rw [q2]
    trivial
section
variable {X : Cx} {C fI : Addr}
/-- InvalidWord(e) -/
def tMkInv (C : Addr) (ta : TA) : St → Hp → XK → Prop := fun σ H Q => ta σ H fun vs H1 => ∃ i : Int, vs = [.int i] ∧ i.natAbs.log2 < 1920 ∧ ∀ d, H1 d = none → Q (.ref C) (some d) (upd H1 d (.xd [(("number" : Str), .int i)]))
theorem pmk_inv {a : Expr} {ta : TA} {p pos : Pos} {k : Nat} (T : SupX.SupTxt X.prog X.K C fI) (gC : X.mg "InvalidWord" = some (.ref C)) (gs : X.mg "super" = none) (hr : Room (k + 1) X.A) (ha : PA X [a] ta) (hg : Gl X "InvalidWord" := by rfl)
    (he : starEach (a :: []) X.env = (false, eval a X.env) :: starEach [] X.env := by rfl) (hpl : (backTo pos (starEach [] X.env)).any (·.1) = false := by rfl) :
    PMk X (.Call (.Name "InvalidWord" p) [a] [] pos) (tMkInv C ta) := by
  intro pins s σ H Q I h
  refine wpAny_Call_Name_kw (ld_glob I hg gC ?_)
  refine PySem.W.callWith_K (h₀ := X.base) I.ok.mod.kin T.kC (thn (ha.run pos pins s σ H _ I h) fun us s1 hh => ?_) he hpl
  obtain ⟨vs, H1, I1, r1, i, ev, hi, q1⟩ := hh
  subst ev
  refine ⟨I1.kIn, ?_⟩
  cases r1 with
  | cons rv rn =>
    rename_i v' us'
    cases rn
    obtain ⟨ti, rfl⟩ := rv
    show wpAny _ _ (call (.ref C) [.int i ti]) _ _ _
    have hlim := I1.nolimit
    obtain ⟨mb, B1, B2⟩ := I1.mod.blt
    have G1 := I1.mod.glob.keeps I1.bk
    have B1' := B1.keeps I1.bk
    have hmb : mb "super" = some (.type "super") := (B2 _ (by decide)).trans (by decide +kernel)
    obtain ⟨hp, g, dr, tk, os⟩ := s1
    refine wpAny_call (SupX.sup_made T gs hmb G1 B1' I1.kIn hlim hi (by have := hr.dp; omega) fun h' tk' e d M => ?_)
    show MkP X pins σ Q (.ref e) ⟨h', g, dr, tk', os⟩
    obtain ⟨oe, fv, hoe, hc, hd, hdat, h1⟩ := M.obj
    have hns := M.ns
    obtain ⟨G', g1, g2⟩ := restrict h' fun b => decide (b ≠ e)
    have gk : ∀ b, b ≠ e → G'.get? b = h'.get? b := fun b hb => g1 b (decide_eq_true hb)
    have ge : G'.get? e = none := g2 e (by simp)
    have old : ∀ b o, hp.get? b = some o → G'.get? b = some o := fun b o q => (gk b (Nat.ne_of_lt (Nat.lt_of_lt_of_le (Heap.lt_size q) M.new))).trans (M.keep b o q)
    have ob : ObjOk X.prog X.w (upd H1 d (.xd [(("number" : Str), .int i)])) G' d (.xd [(("number" : Str), .int i)]) :=
      ⟨_, hns.at (fun o q => (gk d M.dne).trans q), fun f => relO_num (v := .int i) (v' := .int i ti) ⟨ti, rfl⟩ f⟩
    have J : Inv X pins σ (upd H1 d (.xd [(("number" : Str), .int i)])) ⟨G', g, dr, tk', os⟩ := I1.laid (t' := tk') old M.dbig ob
    refine ⟨e, oe, fv, ⟨G', g, dr, tk', os⟩, _, .ref C, some d, rfl, J, fun b o q => ?_, ge, hoe, ⟨hc, hd⟩, hdat, h1, ?_, rfl, I1.bare, raises_own T.exC T.tyC, q1 d (I1.hok.fresh M.dbig)⟩
    · by_cases hb : b = e
      · have q' : G'.get? b = some o := q
        rw [hb, ge] at q'; cases q'
      · exact (gk b hb).symm.trans q
    · rw [upd_ne (Ne.symm M.dne)]
      exact I1.hok.fresh M.new
end
end L2

namespace L2
open PySem PySem.Spec PyProof.Rows
/-! ### several clauses 'except x as n' -/
abbrev HdA := Value × Nat × (Addr → Value → Option Addr → TS)
def endA (D : Ends) (i : Nat) : Ends := { nx := fun σ' H' => D.nx (σ'.set i none) H', rt := D.rt, bk := fun σ' H' => D.bk (σ'.set i none) H', ct := fun σ' H' => D.ct (σ'.set i none) H' }
def wManyA (K : PySem.W.Frag) (Wout : WX) (D : Ends) : List HdA → WX
  | [] => Wout
  | (c, i, ts) :: r => fun cls d σ H => ∃ b, PySem.W.exmOne K cls c = some b ∧ (b = true → ∀ a, H a = none → ts a cls d (endA D i) (σ.set i (some (.ref a))) H) ∧ (b = false → wManyA K Wout D r cls d σ H)
inductive HdsA (X : Cx) : List ExceptHandler → List HdA → Prop
  | nil : HdsA X [] []
  | cons {x n : Str} {i : Nat} {c : Value} {ts : Addr → Value → Option Addr → TS} {b₀ : Stmt} {suite : List Stmt} {np pos' : Pos} {hds : List ExceptHandler} {l : List HdA} (hc : Names X x c) (hi : X.N[i]? = some n) (hln : X.env.kindOf n = some .local)
      (hsu : ∀ (a : Addr) (oe : Obj) (cls : Value) (d : Option Addr) (pn : List (Addr × Obj)), Zc cls d oe → (∃ vs, oe.data = .fields vs) → PSs (X.suite a ((a, oe) :: pn)) (b₀ :: suite) (ts a cls d)) (r : HdsA X hds l) :
      HdsA X (.ExceptHandler (some (.Name x np)) (some n) (b₀ :: suite) pos' :: hds) ((c, i, ts) :: l)
section
variable {X : Cx} {body : List Stmt} {h₀ : ExceptHandler} {hds : List ExceptHandler} {l : List HdA} {pos : Pos} {tb : WX → TS} {Wout : WX}
theorem ps_try_manyA (hs : X.stack = X.env :: X.outer) (hf : X.env.frame = some X.env.locals) (hN : X.N.Nodup) (tk : Takes X Wout)
    (hb : ∀ (W : WX) (pn : List (Addr × Obj)) (xe : Value → Shared → Prop), Takes (X.tr pn xe) W → PassesOwn (model X.prog X.w) X.A X.env xe → PSs (X.tr pn xe) body (tb W))
    (hh : HdsA X (h₀ :: hds) l) : PS X (.Try body (h₀ :: hds) [] [] pos) (fun D σ H => tb (wManyA X.K Wout D l) D σ H) := by
  refine ⟨fun pins s σ H D I h => ?_⟩
  have ok := I.ok
  have hfr : X.A.frames = some (X.env :: X.outer) := by rw [ok.frames, hs]
  refine wpAny_Try_except ?_
  refine wpAny_mono ((hb (wManyA X.K Wout D l) (X.pn ++ pins) (fun e s₁ => wpAny (model X.prog X.w) X.A (noteFrame e X.env) (fun _ s₂ => wpAny (model X.prog X.w) X.A (setFlight e none) (fun _ s₃ =>
    wpAny (model X.prog X.w) X.A (handleBy e X.env (h₀ :: hds)) (SP X pins D) X.xe s₃) X.xe s₂) X.xe s₁) (fun u s' xx => ?_) PassesOwn.looking).run [] s σ H D (I.toTry _) h) (fun f s1 hsp => ?_) (fun e s1 he => he)
  · obtain ⟨a, B, sI, pins', σ', H', cls, d, rfl, J', nb, up, sky, na, os, ag, w⟩ := xx
    have J : Inv X pins σ' H' sI := J'.ofTry ok
    have sky' : Sky B (X.env :: X.outer) a (Zc cls d) X.env.locals s'.heap := by rw [← hs]; exact sky
    show wpAny (model X.prog X.w) X.A (noteFrame (.ref a) X.env) _ _ _
    refine Sky.land Zc.steady hfr hf sky' fun h3 fl3 up3 => ?_
    have J3 : Inv X pins σ' H' { s' with heap := h3 } := J.landed nb fl3.1 (up.trans up3) os ag
    obtain ⟨oe3, vs3, he3, hz3, hd3⟩ := fl3.there
    have notFr : ∀ {h : Heap} {o : Obj} {vs : Array Value}, h.FunFrames B (X.env :: X.outer) → h.get? a = some o → o.data = .fields vs → a ∉ frs (X.env :: X.outer) := fun {h o vs} ff e dd hm => by
      obtain ⟨_, o', e', hnf⟩ := ff.mem hm
      rw [e] at e'; cases e'
      exact hnf _ dd
    have nfr := notFr fl3.2.2.1 he3 hd3
    have nL : a ≠ X.env.locals := fun z => nfr (List.mem_filterMap.mpr ⟨X.env, List.mem_cons_self, by rw [hf, z]⟩)
    have nF : a ∉ X.fs := fun hm => by
      obtain ⟨e, he, q⟩ := List.mem_filterMap.mp hm
      exact nfr (List.mem_filterMap.mpr ⟨e, List.mem_cons_of_mem _ he, q⟩)
    have S3 := J3.suite he3 hd3 na nL nF
    have go : ∀ {hds' : List ExceptHandler} {l' : List HdA}, HdsA X hds' l' → wManyA X.K Wout D l' cls d σ' H' →
        wpAny (model X.prog X.w) X.A (handleBy (.ref a) X.env hds') (SP X pins D) X.xe { s' with heap := h3 } := by
      intro hds' l' hk
      induction hk with
      | nil =>
        intro w
        refine wpAny_handleBy_nil ?_
        obtain ⟨k1, k2, k3, oe, vs, T, oT, ts', he, hz, hd, h1, hr⟩ := id fl3
        unfold PySem.passOn
        refine wpAny_bind (wpAny_field he hd h1 ?_)
        rw [if_neg (show ¬ ((Value.ref T == Value.none) = true) from by simp)]
        have fin : wpAny (model X.prog X.w) X.A (setFlight (.ref a) X.env.frame) (fun _ s4 => wpAny (model X.prog X.w) X.A (throw (.ref a) : Sem Flow) (SP X pins D) X.xe s4) X.xe { s' with heap := h3 } := by
          rw [hf]
          refine HandSPX.setFlight_upZ fl3 fun h4 hh4 up4 => wpAny_throw (tk _ _ ?_)
          exact ⟨a, B, sI, pins, σ', H', cls, d, rfl, J, nb, (up.trans up3).trans up4, .inr (.inr (by rw [hs]; exact hh4)), na, os, ag, w⟩
        first
          | exact wpAny_bind (wpAny_pure (wpAny_bind fin))
          | exact wpAny_bind fin
      | @cons x n i c ts b₀ suite np pos' hds2 l2 hc hi hln hsu r ih =>
        intro w
        have hloc : Loc X.env.scope n := .inl hln
        obtain ⟨b, hb1, hyes, hno⟩ := w
        refine wpAny_handleBy_cons (codeAny_handlers_test ?_) (by intro q; cases q)
        have LT : PySem.W.Looks (model X.prog X.w) h3 (typeOf (.ref a)) cls := fun A Q E s k q => wpAny_typeOf_ref (k _ _ he3) (by rw [hz3.1]; exact q)
        have LM := PySem.W.exm_one (M := model X.prog X.w) (J3.kIn) LT hb1
        have test : ∀ {Q : Value → Shared → Prop} {E : Value → Shared → Prop}, Q c { s' with heap := h3 } → wpAny (model X.prog X.w) (X.A.mark (some (.ref a))) (eval (.Name x np) X.env) Q E { s' with heap := h3 } := fun {Q E} q => by
          obtain ⟨hg, hdbg, hm | ⟨hm, hv, hnn⟩⟩ := hc
          · exact ld_glob (X := X.suite a ((a, oe3) :: (X.pn ++ pins))) S3 hg hm q hdbg
          · exact ld_blt (X := X.suite a ((a, oe3) :: (X.pn ++ pins))) S3 hg hm hv q hnn hdbg
        refine test (LM.here ?_)
        cases b with
        | true =>
          refine codeAny_handlers_suite_as ?_
          refine HandSPX.lands_againZ fl3 fun h4 fl4 up4 => ?_
          have J4 : Inv X pins σ' H' { s' with heap := h4 } := J.landed nb fl4.1 ((up.trans up3).trans up4) os ag
          obtain ⟨oe4, vs4, he4, hz4, hd4⟩ := fl4.there
          have S4 := J4.suite he4 hd4 na nL nF
          refine store_ok (X := X.suite a ((a, oe4) :: (X.pn ++ pins))) (v := .ref a) S4 hN hi hloc rfl (fun s5 S5 => ?_) (.inr hln)
          refine wpAny_mono ((hsu a oe4 cls d (X.pn ++ pins) hz4 ⟨_, hd4⟩).run [] s5 _ H' _ S5 (hyes rfl a na)) (fun f s6 hsp => ?_) (fun _ _ z => False.elim z)
          have end_ : ∀ {σ6 : St} {H6 : Hp} {Q : Shared → Prop}, Inv (X.suite a ((a, oe4) :: (X.pn ++ pins))) [] σ6 H6 s6 → (∀ s7, Inv X pins (σ6.set i none) H6 s7 → Q s7) →
              wpAny (model X.prog X.w) X.A (do bindName X.env n .none; unbindBehindTheSuite X.env n pos') (fun _ s7 => Q s7) X.xe s6 := fun {σ6 H6 Q} S6 hq => gone_ok (S6.unsuite ok) hN hi hln hq
          cases f with
          | next =>
            obtain ⟨σ6, H6, S6, q6⟩ := hsp
            exact end_ S6 fun s7 J7 => ⟨_, _, J7, q6⟩
          | brk =>
            obtain ⟨σ6, H6, S6, q6⟩ := hsp
            exact end_ S6 fun s7 J7 => ⟨_, _, J7, q6⟩
          | cont =>
            obtain ⟨σ6, H6, S6, q6⟩ := hsp
            exact end_ S6 fun s7 J7 => ⟨_, _, J7, q6⟩
          | ret u =>
            obtain ⟨v6, σ6, H6, S6, r6, q6⟩ := hsp
            exact end_ S6 fun s7 J7 => ⟨_, _, _, J7, r6, q6⟩
        | false =>
          show wpAny _ X.A (handleBy (.ref a) X.env hds2) _ _ _
          exact ih (hno rfl)
    exact go hh w
  · cases f with
    | next =>
      obtain ⟨σ', H', J', q⟩ := hsp
      exact wpAny_execs_nil ⟨σ', H', J'.ofTry ok, q⟩
    | brk =>
      obtain ⟨σ', H', J', q⟩ := hsp
      exact ⟨σ', H', J'.ofTry ok, q⟩
    | cont =>
      obtain ⟨σ', H', J', q⟩ := hsp
      exact ⟨σ', H', J'.ofTry ok, q⟩
    | ret u =>
      obtain ⟨v, σ', H', J', r, q⟩ := hsp
      exact ⟨v, σ', H', J'.ofTry ok, r, q⟩
/-! ### a field of an error that is just made: C(..).f -/
def tMkFld (t : St → Hp → XK → Prop) (C : Addr) (f : Str) : TE := fun σ H Q => t σ H fun cls d H1 => cls = .ref C ∧ ∃ (dd : Addr) (fs : List (Str × V)) (v : V), d = some dd ∧ H1 dd = some (.xd fs) ∧ fs.lookup f = some v ∧ Q v H1
theorem pe_mkfld {C : Addr} {e : Expr} {t : St → Hp → XK → Prop} {pos : Pos} {n : Str} (T : XfC X.K C) (hno : PySem.W.findIn X.K (.ref C) n = some none) (he : PMk X e t) (hb : attributeBase e n X.env (eval e X.env) = eval e X.env := by rfl) :
    PE X (.Attribute e n pos) (tMkFld t C n) := by
  refine ⟨fun pins s σ H Q I h => ?_⟩
  refine attr_of hb (wpAny_mono (he pins s σ H _ I h) (fun u s1 hh => ?_) fun _ _ z => z)
  obtain ⟨a, oe, vs, sI, H1, cls, d, rfl, J, k, hne, ha, hz, hd, h1, na, os, ag, r, ec, dd, fs, v, ed, ea, l, q⟩ := hh
  subst ec
  subst ed
  have I1 : Inv X pins σ H1 s1 := J.landed (B := sI.heap) (fun b o e _ => e) k (Heap.UpToSlots.of_keeps k) os ag
  have hx : ObjOk X.prog X.w H1 s1.heap dd (.xd fs) := I1.hok dd _ ea
  obtain ⟨mA, hns, hr⟩ := hx
  obtain ⟨od, ho, hl⟩ := lookIn_ns hns
  obtain ⟨u, hu, ru⟩ := RelO.some_of (v := v) (o := mA n) (by rw [← l]; exact hr n)
  have J : PySem.W.InstAt s1.heap a oe C (some od) := ⟨ha, hz.1, by unfold PySem.W.notCls; rw [hd] <;> rfl, by rw [hz.2]; exact ho⟩
  exact HandSPX.exc_get I1.kIn J T.ga T.gg T.exC (PySem.W.findObj_own T.hdC hno rfl (by rw [hl, hu])) (handed_of ru) ⟨v, H1, I1.tok _, ru, q⟩
end
end L2
/-! ### isinstance of a caught error that has a dict -/
namespace SupX
open PySem PySem.W PySem.Spec PySem.Calls PyProof.Rows
section
variable {prog : Program} {w : World} {A : Around} {E : Value → Shared → Prop} {s : Shared} {K : Frag} {x D : Addr} {ox : Obj} {od : Option Obj}
theorem findObj_dataD {C : Addr} {name : Str} {a g : Value} (hc : (clsIn K C).isSome = true) (ha : findIn K (.ref C) name = some (some a)) (hg : specialIn K a "__get__" = some (some g)) (ht : takesIn K a = some true) : findObj K C od name = some (.bind g a) := by
  obtain ⟨cd, hc⟩ := Option.isSome_iff_exists.mp hc
  unfold findObj
  rw [hc, Option.bind_some, ha, Option.bind_some]
  simp [hg, ht]
theorem kin_classD {Q : Option Value → Shared → Prop} (hga : findIn K (.ref D) "__getattribute__" = some (some (.builtin "BaseException.__getattribute__"))) (hgt : findIn K (.ref D) "__getattr__" = some none) (hsub : subIn K (.ref D) (.type "BaseException") = some true)
    (hdct : hasDictIn K D = true) (ha : findIn K (.ref D) "__class__" = some (some (.builtin "object.__class__")))
    (hn : specialIn K (.builtin "object.__class__") "__get__" = some (some (.builtin "getset_descriptor.__get__"))) (htk : takesIn K (.builtin "object.__class__") = some true) (hm : mroIn K D (.type "object") = some true)
    (X : K.In s.heap) (I : InstAt s.heap x ox D od) (h : Q (some (.ref D)) { s with toks := s.toks + 1 }) : wpAny (model prog w) A (getAttr? (.ref x) "__class__") Q E s := by
  have hf : findObj K D od "__class__" = some (.bind (.builtin "getset_descriptor.__get__") (.builtin "object.__class__")) := findObj_dataD (by obtain ⟨cd, hc, _⟩ := any_some hdct; rw [hc]; rfl) ha hn htk
  obtain ⟨hp, g, d, t, os⟩ := s
  have L0 := I.type (M := model prog w)
  have L1 := looks_findIn (M := model prog w) X hga
  have L2 := looks_findIn (M := model prog w) X hgt
  have L3 := looks_find (M := model prog w) X I hf
  have sub : Looks (model prog w) hp (isInstance (.ref x) (.type "BaseException")) true := L0.andThen (looks_subIn X hsub)
  have hx0 : (false && onTheHeap (Value.builtin "BaseException.__getattribute__")) = false := rfl
  have hx2 : (Value.builtin "BaseException.__getattribute__" == Value.builtin "object.__getattribute__") = false := by decide +kernel
  have hx1 : (onTheHeap (Value.ref D) && Value.builtin "BaseException.__getattribute__" == Value.builtin "object.__getattribute__") = false := by rw [hx2]; rfl
  unfold getAttr? getAttrBy? getAttrBy
  refine wpAny_bind (wpAny_mkText (wpAny_bind (wpAny_attempt (wpAny_holding (wpAny_bind (L0.at (wpAny_bind (L1.at ?_))))))))
  show wpAny _ _ (if (onTheHeap (Value.ref D) && Value.builtin "BaseException.__getattribute__" == Value.builtin "object.__getattribute__") = true then _ else _) _ _ _
  rw [hx1, if_neg Bool.false_ne_true]
  unfold getAttrByItsOwn hookBefore
  refine wpAny_bind ?_
  rw [if_pos (show onTheHeap (Value.ref D) = true from rfl)]
  refine L2.at ?_
  refine wpAny_bind (wpAny_attempt (wpAny_holding ?_))
  unfold callGetattribute
  rw [hx0, if_neg Bool.false_ne_true]
  unfold boundAndCalled
  rw [PySem.F.excAttr_ValueError.ga.bind (.ref x)]
  refine wpAny_bind (wpAny_pure ?_)
  show wpAny _ _ (call (.builtin "BaseException.__getattribute__") [.ref x, .str "__class__" t]) _ _ _
  refine wpAny_call (codeAny_call_builtin PySem.F.excAttr_ValueError.ga.plain PySem.F.entry_bexc_ga ?_)
  refine @check_slot (model prog w) _ _ ⟨hp, g, d, t + 1, os⟩ "BaseException.__getattribute__" "BaseException" "__getattribute__" (.ref x) [.str "__class__" t] [] _ (by decide +kernel) (by decide +kernel) sub (PySem.F.args_bexc_ga (.ref x) (.str "__class__" t)) ?_
  unfold Builtin.«object.__getattribute__»
  refine wpAny_bind (wpAny_of_eq (a := ((Value.ref x : Value), [Value.str "__class__" t])) (by first | rfl | (simp only [slotArgs]; rfl)) ?_)
  refine wpAny_bind (wpAny_pure (wpAny_bind (L0.at (wpAny_bind (L3.at ?_)))))
  show wpAny _ _ (holding [Value.builtin "object.__class__"] (call (.builtin "getset_descriptor.__get__") [.builtin "object.__class__", .ref x, .ref D]) >>= ret) _ _ _
  refine wpAny_bind (wpAny_holding (wpAny_call (class_get (s := ⟨hp, g, d, t + 1, os⟩) (ox := ox) (od := od) X I hm ?_)))
  refine wpAny_pure ?_
  show wpAny _ _ (handedOut (.ref D)) _ _ _
  rw [handedOut_of (v := .ref D) rfl]
  first
    | exact wpAny_pure (wpAny_pure h)
    | exact wpAny_pure h
    | exact wpAny_pure (wpAny_bind (wpAny_pure (wpAny_pure h)))
theorem kitx_excD (hga : findIn K (.ref D) "__getattribute__" = some (some (.builtin "BaseException.__getattribute__"))) (hgt : findIn K (.ref D) "__getattr__" = some none) (hsub : subIn K (.ref D) (.type "BaseException") = some true) (hdct : hasDictIn K D = true) (ha : findIn K (.ref D) "__class__" = some (some (.builtin "object.__class__")))
    (hn : specialIn K (.builtin "object.__class__") "__get__" = some (some (.builtin "getset_descriptor.__get__"))) (htk : takesIn K (.builtin "object.__class__") = some true) (hm : mroIn K D (.type "object") = some true) :
    KitX K (.ref x) (.ref D) (fun h => ∃ od, InstAt h x ox D od) where
  ty := fun _ _ _ ⟨_, I⟩ => I.type
  it := fun _ _ X _ => by
    obtain ⟨cdD, hcD, _⟩ := any_some hdct
    unfold clsIn at hcD
    split at hcD
    · rename_i c' d' cd' sl' ho
      intro A' Q' E' s' k q
      unfold isType loadHead
      exact wpAny_bind (wpAny_loadPart (k _ _ (X _ _ ho)) (wpAny_pure q))
    · cases hcD
  ne := fun h tp dd its n sl X htp => by
    obtain ⟨cdD, hcD, _⟩ := any_some hdct
    refine Bool.eq_false_iff.mpr fun q => ?_
    have e : D = tp := Value.ref.inj (beq_iff_eq.mp q)
    subst e
    unfold clsIn at hcD
    split at hcD
    · rename_i c' d' cd' sl' ho
      have z := (X _ _ ho).symm.trans htp
      cases z
    · cases hcD
  ca := fun X ⟨_, I⟩ k => kin_classD hga hgt hsub hdct ha hn htk hm X I k
end
end SupX
namespace L2
open PySem PySem.Spec PyProof.Rows
theorem call_isD {X : Cx} {a D : Addr} {oe : Obj} {cls : Value} {d : Option Addr} {pn : List (Addr × Obj)} (C : ExcC X.K D) (hz : Zc cls d oe) (hf : ∃ vs, oe.data = .fields vs) :
    CallR (X.suite a ((a, oe) :: pn)) (.builtin "isinstance") (fun xs H Q => cls = .ref D ∧ (∀ dd, d = some dd → ∃ fs, H dd = some (.xd fs)) ∧ rIsE X.K D a xs H Q) := by
  intro pins s σ H xs us Q I r ⟨ec, hdd, h⟩
  subst ec
  obtain ⟨c, cv, b, rfl, hcv, e, q⟩ := h
  cases r with
  | cons rx rr =>
    cases rr with
    | cons rt rr =>
      cases rr
      cases rx
      have ec := hcv _ rt
      subst ec
      obtain ⟨hget, _⟩ := I.pin (a, oe) (List.mem_append.mpr (.inl List.mem_cons_self))
      obtain ⟨vs, hv⟩ := hf
      have J : ∃ od, PySem.W.InstAt s.heap a oe D od := by
        cases d with
        | none =>
          obtain ⟨oc, od, oda, osl⟩ := oe
          obtain ⟨h1, h2⟩ := hz
          dsimp only at h1 h2 hv
          subst h1 h2 hv
          exact ⟨none, hget, rfl, rfl, trivial⟩
        | some dd =>
          obtain ⟨fs, ea⟩ := hdd dd rfl
          have hx : ObjOk X.prog X.w H s.heap dd (.xd fs) := I.hok dd _ ea
          obtain ⟨mA, hns, hr⟩ := hx
          obtain ⟨od, ho, hl⟩ := lookIn_ns hns
          exact ⟨some od, hget, hz.1, by unfold PySem.W.notCls; rw [hv] <;> rfl, by rw [hz.2]; exact ho⟩
      exact PySem.W.kia_one (SupX.kitx_excD C.hg C.hk C.hs C.hd C.ha C.hn C.ht C.hm) I.kIn J e (fun z => nomatch z) fun tk => ⟨.bl b, H, I.kept (t' := tk) fun _ _ z => z, rfl, q⟩
end L2

namespace L2
open PySem PySem.Spec PyProof.Rows
/-! ### a list comprehension whose element may raise (a call's exception leaves) -/
theorem noteFrame_frame {e : Value} {env env' : Env} (h : env.frame = env'.frame) : noteFrame e env = noteFrame e env' := by
  unfold noteFrame PySem.frameOf
  rw [h]
theorem passOn_frame {what : String} {e : Value} {env env' : Env} (h : env.frame = env'.frame) : (PySem.passOn what e env : Sem Value) = PySem.passOn what e env' := by
  unfold PySem.passOn
  rw [h]
/-- what is wanted behind the block: of a value, of an exception -/
def compX (M : Model) (A : Around) (E : Value → Shared → Prop) (Q : Value → Shared → Prop) (acc : Value) (C : Addr) (fr : Option Addr) (r : Result) (s' : Shared) : Prop :=
  match r with
  | .ok _ => ∃ m, s'.heap.Ns C m ∧ ∀ h', Heap.SameBut C s'.heap h' → Q acc { s' with heap := h' }
  | .error x => ∃ m, s'.heap.Ns C m ∧ ∀ h', Heap.SameBut C s'.heap h' → ∀ cenv : Env, cenv.locals = C → cenv.frame = fr → wpAny M A (PySem.passOn "comprehension.variables-let-go" x cenv : Sem Value) (fun _ _ => False) E { s' with heap := h' }
section
variable {M : Model} {A : Around} {E : Value → Shared → Prop} {s : Shared} {env : Env}
theorem wpAny_comprehension_X {e : Expr} {scope : Scope} {pos : Pos} {newAcc first : Sem Value} {g : Comprehension} {gs : List Comprehension} {cl : List (Str × Addr)}
    {Q : Value → Shared → Prop}
    (hcl : clausesOf e = g :: gs) (hs : ∀ x, foldedSetIterable g.iter env x = pure x) (hclos : closureFor scope env = pure cl)
    (hkind : scope.kind = .function) (hnames : ∀ x ∈ scope.names, x.2 = .local → scope.names.lookup x.1 = some .local)
    (h : wpAny M A first (fun x s₁ => wpAny M A (pyIter x) (fun it s₂ => wpAny M A newAcc (fun acc s₃ =>
      wpAny M A (newFunctionEnv scope env.globals cl [] env.qual none .none (some env)) (fun cenv s₄ =>
        cenv.frame = env.frame ∧ codeAny M A (.compStart e 0 it acc { cenv with scope := relabel scope env }) (compX M A E Q acc cenv.locals env.frame) s₄) E s₃) E s₂) E s₁) E s) :
    wpAny M A (comprehension e scope env pos newAcc false first none) Q E s := by
  unfold comprehension
  rw [hclos, hcl]
  refine wpAny_bind (wpAny_mono h (fun x s₁ h₁ => wpAny_bind (wpAny_standAt (wpAny_bind (wpAny_of_eq (hs x) (wpAny_bind (wpAny_holding (wpAny_mono h₁ (fun it s₂ h₂ =>
    wpAny_standIf (wpAny_bind (wpAny_mono h₂ (fun acc s₃ h₃ => wpAny_bind (wpAny_pure (wpAny_bind (wpAny_mono h₃ (fun cenv s₄ h₄ => ?_) fun _ _ h' => h')))) fun _ _ h' => h')))
      fun _ _ h' => h'))))))) fun _ _ h' => h')
  obtain ⟨hfr, h₄⟩ := h₄
  dsimp only
  have hv : ∀ x ∈ (scope.names.filter fun x => (x.2 == .local || x.2 == .cell) && x.1 != (".0" : Str)).reverse, x.2 = .local →
      Env.kindOf { cenv with scope := relabel scope env } x.1 = some .local := fun x hx hl => lookup_relabel_local (hnames x (List.mem_filter.mp (List.mem_reverse.mp hx)).1 hl)
  refine wpAny_holding (wpAny_bind (wpAny_attempt (wpAny_holding (wpAny_run (codeAny_mono h₄ fun r s' hr => ?_)))))
  cases r with
  | ok f =>
    obtain ⟨m, hn, hr⟩ := hr
    exact wpAny_bind (wpAny_holding (wpAny_comp_letGo (cenv := { cenv with scope := relabel scope env }) hkind _ s' m hv hn fun h' m' _ hs' => wpAny_pure (hr h' hs')))
  | error x =>
    obtain ⟨m, hn, hr⟩ := hr
    exact wpAny_bind (wpAny_holding (wpAny_comp_letGo (cenv := { cenv with scope := relabel scope env }) hkind _ s' m hv hn fun h' m' _ hs' => wpAny_mono (hr h' hs' _ rfl hfr) (fun _ _ f => f.elim) fun _ _ y => y))
end
theorem funFrames_at {base B h h' : Heap} : ∀ {l : List Env}, h.FunFrames base l → (∀ L ∈ frs l, B.get? L = none) → (∀ L ∈ frs l, ∀ o, h.get? L = some o → ∃ o', h'.get? L = some o' ∧ o'.data = o.data) → h'.FunFrames B l
  | [], _, _, _ => trivial
  | env :: l, h, hn, hk => by
    obtain ⟨hkd, ⟨L, o, hf, _, ho, hd⟩, hr⟩ := h
    obtain ⟨o', ho', hd'⟩ := hk L (List.mem_filterMap.mpr ⟨env, List.mem_cons_self, hf⟩) o ho
    exact ⟨hkd, ⟨L, o', hf, hn L (List.mem_filterMap.mpr ⟨env, List.mem_cons_self, hf⟩), ho', by rw [hd']; exact hd⟩, funFrames_at hr (fun b hb => by
      obtain ⟨e, he, q⟩ := List.mem_filterMap.mp hb
      exact hn b (List.mem_filterMap.mpr ⟨e, List.mem_cons_of_mem _ he, q⟩)) (fun b hb => by
      obtain ⟨e, he, q⟩ := List.mem_filterMap.mp hb
      exact hk b (List.mem_filterMap.mpr ⟨e, List.mem_cons_of_mem _ he, q⟩))⟩
section
variable {X : Cx} {pins : List (Addr × Obj)} {σ : St} {H : Hp} {s s' : Shared} {E : XK} {W : WX}
/-- a call's exception: where it stands -/
theorem of_callF (I : Inv X pins σ H s) {u : Value} (c : CX X.prog X.w X.stack H s E u s') :
    ∃ (a : Addr) (B : Heap) (sI : Shared) (H' : Hp) (cls : Value) (d : Option Addr), u = .ref a ∧ Inv X pins σ H' sI ∧ (∀ b o, sI.heap.get? b = some o → b ∉ frs X.stack → B.get? b = some o) ∧ (∀ b o, sI.heap.get? b = some o → s'.heap.get? b = some o) ∧
      HandSPX.FlyingZ B X.stack a (Zc cls d) s'.heap ∧ H' a = none ∧ s'.os = sI.os ∧ AllBare s'.gens ∧ E cls d H' := by
  obtain ⟨a, B, H', cls, d, rfl, fl, hok, ub, na, os, ag, hE⟩ := c
  obtain ⟨G, g1, g2⟩ := restrict s'.heap fun b => (B.get? b).isSome || decide (b ∈ frs X.stack)
  have st : B.StaysIn s'.heap := fl.1
  have gB : ∀ b o, B.get? b = some o → G.get? b = some o := fun b o e => by
    rw [g1 b (by simp [e])]
    exact st b o e
  have gF : ∀ b, b ∈ frs X.stack → G.get? b = s'.heap.get? b := fun b hb => g1 b (by simp [hb])
  have og : ∀ b o, G.get? b = some o → s'.heap.get? b = some o ∧ ((B.get? b).isSome = true ∨ b ∈ frs X.stack) := fun b o e => by
    cases q : ((B.get? b).isSome || decide (b ∈ frs X.stack)) with
    | false => rw [g2 b q] at e; cases e
    | true =>
      rw [g1 b q] at e
      exact ⟨e, by simpa [Bool.or_eq_true] using q⟩
  refine ⟨a, B, { s with heap := G, gens := s'.gens, drawn := s'.drawn, toks := s'.toks }, H', cls, d, rfl, ?_, fun b o e hb => ?_, fun b o e => (og b o e).1, fl, na, os, ag, hE⟩
  · refine I.call (ch := []) ⟨fun b o e n hb _ => gB b o (ub.keep b o e n hb), fun b o e n hb _ => ?_, fun b o e n _ => ub.free b o e n, fun b o e _ => ?_, ub.tups, ub.frzs, ub.tbls⟩ (hok.kept gB) ag (fun _ z => nomatch z)
    · obtain ⟨sl, q⟩ := ub.slot b o e hb
      exact ⟨sl, by rw [gF b hb]; exact q⟩
    · by_cases hb : b ∈ frs X.stack
      · obtain ⟨sl, q⟩ := ub.slot b o e hb
        exact ⟨_, by rw [gF b hb]; exact q⟩
      · obtain ⟨o', q⟩ := ub.there b o e hb
        exact ⟨o', gB b o' q⟩
  · obtain ⟨e', h⟩ := og b o e
    rcases h with h | h
    · obtain ⟨o', q⟩ := Option.isSome_iff_exists.mp h
      have z := st b o' q
      rw [e'] at z; cases z
      exact q
    · exact absurd h hb
/-- the block's exception is the def's -/
theorem comp_raise {scope : Scope} {ce : Env} {fp : List Addr} {s3 s5 : Shared} {H3 H5 : Hp} {pinsb : List (Addr × Obj)} {σb : St} {Q : Value → Shared → Prop} {acc : Value} {u : Value} (hs : X.stack = X.env :: X.outer) (hf : X.env.frame = some X.env.locals)
    (tk : Takes X W) (hW : ∀ cls d H', E cls d H' → W cls d σ H') (I3 : Inv X pins σ H3 s3) (f3 : ∀ b ∈ fp, FpOk X pins H3 b) (cL : ce.locals = s3.heap.objs.size) (cF : ce.frame = X.env.frame)
    (I5 : Inv (X.blk s3 H3 scope ce fp) pinsb σb H5 s5) (c : CX X.prog X.w X.stack H5 s5 E u s') :
    notedBy (model X.prog X.w) X.A ce (fun e s' => compX (model X.prog X.w) X.A X.xe Q acc s3.heap.objs.size X.env.frame (.error e) s') u s' := by
  obtain ⟨a, B, sI, Hb, cls, d, rfl, Jb, nb, up, fl, na, os, ag, hE⟩ := of_callF I5 c
  have ok := I3.ok
  have hfr : X.A.frames = some (X.env :: X.outer) := by rw [ok.frames, hs]
  have fl : HandSPX.FlyingZ B X.stack a (Zc cls d) s'.heap := fl
  have nb : ∀ b o, sI.heap.get? b = some o → b ∉ frs X.stack → B.get? b = some o := nb
  generalize hC : s3.heap.objs.size = C at *
  have freeC : Hb C = none := by
    have z : Hb ce.locals = none := Jb.free
    rw [cL] at z
    exact z
  have fpC : FpOk X pins Hb C := I3.fpOk (by rw [hC]; exact Nat.le_refl _) freeC
  have nCf : C ∉ frs X.stack := fun hm => by
    rw [hs] at hm
    obtain ⟨e, he, q⟩ := List.mem_filterMap.mp hm
    rcases List.mem_cons.mp he with z | z
    · rw [z, hf] at q
      exact fpC.2.1 (Option.some.inj q).symm
    · exact fpC.2.2.1 (List.mem_filterMap.mpr ⟨e, z, q⟩)
  show wpAny (model X.prog X.w) X.A (noteFrame (.ref a) ce) _ _ s'
  rw [noteFrame_frame cF]
  rw [hs] at fl
  refine HandSPX.looks_onZ Zc.steady hfr hf fl fun h3 held up3 => ?_
  obtain ⟨mC, nsC, _⟩ := Jb.loc
  have nsC : sI.heap.Ns ce.locals mC := nsC
  rw [cL] at nsC
  obtain ⟨oC, esC, epC, eC, dC, rC⟩ := nsC
  obtain ⟨slC, eC3⟩ := up3 C oC (up _ _ eC) (fun vs z => by rw [dC] at z; cases z)
  refine ⟨mC, ⟨_, esC, epC, eC3, dC, rC⟩, fun h4 sb cenv _ hcf => ?_⟩
  have get4 : ∀ b, b ≠ C → h4.get? b = h3.get? b := sb.2
  obtain ⟨hst, hBa, hff, oe, vs, T, oT, ts, he, hz, hd, h1, hnT, hTe, hT, hdT, hfl⟩ := held
  obtain ⟨B', b1, b2⟩ := restrict B fun b => decide (b ≠ C)
  have B'no : ∀ {b : Addr}, B.get? b = none → B'.get? b = none := fun {b} e => by
    by_cases z : b = C
    · exact b2 b (by simp [z])
    · rw [b1 b (by simp [z])]; exact e
  have B'of : ∀ {b : Addr} {o : Obj}, B'.get? b = some o → b ≠ C ∧ B.get? b = some o := fun {b o} e => by
    by_cases z : b = C
    · rw [b2 b (by simp [z])] at e; cases e
    · rw [b1 b (by simp [z])] at e; exact ⟨z, e⟩
  have notC : ∀ {b : Addr} {o : Obj} {vs : Array Value}, h3.get? b = some o → o.data = .fields vs → b ≠ C := fun {b o vs} e dd z => by
    rw [z, eC3] at e
    cases e
    have dd' : oC.data = .fields vs := dd
    rw [dC] at dd'; cases dd'
  have held4 : HandSPX.HeldZ B' (X.env :: X.outer) a (Zc cls d) X.env.locals h4 := by
    refine ⟨fun b o e => ?_, B'no hBa, ?_, oe, vs, T, oT, ts, (get4 a (notC he hd)).trans he, hz, hd, h1, B'no hnT, hTe, (get4 T (notC hT hdT)).trans hT, hdT, hfl⟩
    · obtain ⟨z, e'⟩ := B'of e
      exact (get4 b z).trans (hst b o e')
    · refine funFrames_at hff (fun L hL => B'no ((hff.mem hL).1)) fun L hL o e => ?_
      have z : L ≠ C := fun z => nCf (by rw [hs, ← z]; exact hL)
      exact ⟨o, (get4 L z).trans e, rfl⟩
  rw [passOn_frame hcf]
  unfold PySem.passOn
  refine wpAny_bind (wpAny_field ((get4 a (notC he hd)).trans he) hd h1 ?_)
  rw [if_neg (show ¬ ((Value.ref T == Value.none) = true) from by simp)]
  have fin : wpAny (model X.prog X.w) X.A (setFlight (.ref a) X.env.frame) (fun _ s4 => wpAny (model X.prog X.w) X.A (throw (.ref a) : Sem Value) (fun _ _ => False) X.xe s4) X.xe { s' with heap := h4 } := by
    rw [hf]
    refine HandSPX.setFlight_onZ (base := B') held4 fun h5 held5 up5 => wpAny_throw (tk _ _ ?_)
    obtain ⟨G, g1, g2⟩ := restrict sI.heap fun b => decide (b ≠ C)
    have gk : ∀ b, b ≠ C → G.get? b = sI.heap.get? b := fun b z => g1 b (by simp [z])
    have gn : G.get? C = none := g2 C (by simp)
    have gof : ∀ {b : Addr} {o : Obj}, G.get? b = some o → b ≠ C ∧ sI.heap.get? b = some o := fun {b o} e => by
      by_cases z : b = C
      · rw [z, gn] at e; cases e
      · rw [gk b z] at e; exact ⟨z, e⟩
    have old : ∀ {b : Addr} {o : Obj}, s3.heap.get? b = some o → b ≠ C := fun {b o} e z => by
      have := Heap.lt_size e
      rw [hC, z] at this
      exact Nat.lt_irrefl _ this
    have u : Un (frs X.stack) fp H3 Hb s3.heap sI.heap := Jb.base
    have u' : Un (frs X.stack) fp H3 Hb s3.heap G := ⟨fun b o e n hb hx => by rw [gk b (old e)]; exact u.keep b o e n hb hx, fun b o e n hb hx => by rw [gk b (old e)]; exact u.slot b o e n hb hx, u.free, fun b o e hx => by rw [gk b (old e)]; exact u.there b o e hx, u.tups, u.frzs, u.tbls⟩
    have hokG : HOk X.prog X.w Hb G := fun b o q => (show ObjOk X.prog X.w Hb sI.heap b o from Jb.hok b o q).stay (fun c v hc r => by
        rw [gk c fun z => ?_]
        · exact r
        · rcases hc with hc | hc
          · rw [z] at hc; rw [← hc, freeC] at q; cases q
          · rw [z, freeC] at hc; cases hc) (fun _ r => r) fun _ _ r => r
    have J : Inv X pins σ Hb { sI with heap := G } := I3.call' (ch := fp) (s' := { sI with heap := G }) Jb.os u' hokG Jb.bare fun b hb => ⟨(f3 b hb).2.2.2.1, (f3 b hb).2.1, (f3 b hb).2.2.2.2.1, (f3 b hb).2.2.2.2.2⟩
    refine ⟨a, B', { sI with heap := G }, pins, σ, Hb, cls, d, rfl, J, fun b o e hb => ?_, fun b o e hn => ?_, .inr (.inr (by rw [hs]; exact held5)), na, os, ag, hW _ _ _ hE⟩
    · obtain ⟨z, e'⟩ := gof e
      rw [b1 b (by simp [z])]
      exact nb b o e' hb
    · obtain ⟨z, e'⟩ := gof e
      obtain ⟨sl3, e3⟩ := up3 b o (up b o e') hn
      obtain ⟨sl5, e5⟩ := up5 b _ ((get4 b z).trans e3) hn
      exact ⟨sl5, e5⟩
  first
    | exact wpAny_bind (wpAny_pure (wpAny_bind fin))
    | exact wpAny_bind fin
/-- [elt for target in iter], the element may raise -/
theorem pe_lcX {elt tg iter : Expr} {ifs : List Expr} {scope : Scope} {own : List (Str × Nat)} {pos : Pos} {wi : TI} {g : TG} {tt : TT} {te : TE} {E : XK} {W : WX} (hc : X.calm = true) (hN : X.N.Nodup) (hstk : X.stack = X.env :: X.outer) (hfr0 : X.env.frame = some X.env.locals) (tk : Takes X W) (hW : ∀ cls d σ H, E cls d H → W cls d σ H)
    (hi : PI X tg iter wi) (ok : BlkOk X.N X.env.scope scope own)
    (hg : ∀ (s : Shared) (H : Hp) (C : Addr) (cl : List (Str × Addr)) (fp : List Addr), PG (X.blk s H scope (compEnvC scope cl C X.env) fp) tg g) (ht : ∀ (s : Shared) (H : Hp) (C : Addr) (cl : List (Str × Addr)) (fp : List Addr), PTs (X.blk s H scope (compEnvC scope cl C X.env) fp) ifs tt)
    (he : ∀ (s : Shared) (H : Hp) (C : Addr) (cl : List (Str × Addr)) (fp : List Addr) (xe : Value → Shared → Prop), Passes (L2.CX X.prog X.w) ((X.blk s H scope (compEnvC scope cl C X.env) fp).wish xe) E → PE ((X.blk s H scope (compEnvC scope cl C X.env) fp).wish xe) elt te)
    (hfold : ∀ x, foldedSetIterable iter X.env x = pure x := by intro _; rfl) :
    PE X (.ListComp elt [⟨tg, iter, ifs, 0⟩] scope pos) (tLc wi g tt te (own.map (·.2))) := by
  refine ⟨fun pins s σ H Q I h => ?_⟩
  rw [eval_ListComp]
  have hfree : ∀ y ∈ scope.names, y.2 = .free → ∃ c, X.env.cells.lookup y.1 = some c := fun y hy e => by
    rcases ok.free y hy e with k | k
    · exact I.ok.has _ (.inl k)
    · exact I.ok.has _ (.inr k)
  refine wpAny_comprehension_X rfl hfold (closure_ok hfree) ok.kind (fun y hy e => by rw [ok.uniq y hy, e])
    (thn (hi.run pins s σ H _ I h) fun xv s1 hx => thn hx fun itv s2 h2 => ?_)
  obtain ⟨it, fp, tn, J, H2, e, I2, T, st2, f2, q⟩ := h2
  subst e
  refine wpAny_newObj_type (newEnv_comp ⟨rfl, ?_⟩) (by show 0 ≤ sizeLine; decide)
  generalize hD : s2.heap.objs.size = D
  have hDn : H2 D = none := I2.hok.fresh (Nat.le_of_eq hD)
  obtain ⟨W, ⟨m0, w0⟩, turn⟩ := q D hDn
  -- the new list
  generalize hs3 : ({ s2 with heap := s2.heap.push { cls := .type "list", data := .seq ([] : List Value).toArray } } : Shared) = s3
  have I3 : Inv X pins σ (upd H2 D (.lst [])) s3 := by
    rw [← hs3]
    refine I2.laid (t' := s2.toks) (fun b o e => Heap.get?_push_of_some _ e) (Nat.le_of_eq hD) ⟨Nat.zero_le _, [], 0, .nil, ?_⟩
    rw [← hD]
    exact Heap.get?_push_size _ rfl
  have h3 : s3.heap = s2.heap.push { cls := .type "list", data := .seq ([] : List Value).toArray } := by rw [← hs3]
  have sz : ∀ b ∈ fp, b < s2.heap.objs.size := fun b hb => by
    obtain ⟨o, e, _⟩ := T.obj _ _ st2 b hb
    exact Heap.lt_size e
  have f3 : ∀ b ∈ fp, FpOk X pins (upd H2 D (.lst [])) b ∧ b < s3.heap.objs.size := fun b hb => by
    have hlt := sz b hb
    refine ⟨⟨?_, (f2 b hb).2⟩, by rw [h3, Heap.size_push]; exact Nat.lt_succ_of_lt hlt⟩
    rw [upd_ne (by rw [← hD]; exact Nat.ne_of_lt hlt)]
    exact (f2 b hb).1
  have st3 : tn 0 s3.heap := T.keep _ _ _ st2 fun b _ o e => by rw [h3]; exact Heap.get?_push_of_some _ e
  have I4 := block_start I3 ok hN f3
  have pg := hg s3 (upd H2 D (.lst [])) s3.heap.objs.size (cellsFrom (s3.heap.objs.size + 1) scope.names (cloFrom X.env.cells scope.names [])) fp
  have pt := ht s3 (upd H2 D (.lst [])) s3.heap.objs.size (cellsFrom (s3.heap.objs.size + 1) scope.names (cloFrom X.env.cells scope.names [])) fp
  have pe := he s3 (upd H2 D (.lst [])) s3.heap.objs.size (cellsFrom (s3.heap.objs.size + 1) scope.names (cloFrom X.env.cells scope.names [])) fp (notedBy (model X.prog X.w) X.A (compEnvC scope (cellsFrom (s3.heap.objs.size + 1) scope.names (cloFrom X.env.cells scope.names [])) s3.heap.objs.size X.env) (fun e s' => compX (model X.prog X.w) X.A X.xe (EP X pins σ Q) (.ref D) s3.heap.objs.size X.env.frame (.error e) s')) (fun pinsb σb H5 s5 u s' I5 c => comp_raise (fp := fp) (H3 := upd H2 D (.lst [])) (pinsb := pinsb) (σb := σb) hstk hfr0 tk (fun cls d H' z => hW cls d σ H' z) I3 (fun b hb => (f3 b hb).1) rfl rfl I5.unwish c)
  show codeAny _ _ (.compStart (.ListComp elt [⟨tg, iter, ifs, 0⟩] scope pos) 0 (.ref it) (.ref D) (compEnvC scope (cellsFrom (s3.heap.objs.size + 1) scope.names (cloFrom X.env.cells scope.names [])) s3.heap.objs.size X.env)) (compX (model X.prog X.w) X.A X.xe (EP X pins σ Q) (.ref D) s3.heap.objs.size X.env.frame) { s3 with heap := pushCells (s3.heap.push { cls := .type "dict", data := .dict #[] }) scope.names }
  have nfp : ∀ b ∈ fp, (upd H2 D (.lst [])) b = none := fun b hb => (f3 b hb).1.1
  generalize hce : compEnvC scope (cellsFrom (s3.heap.objs.size + 1) scope.names (cloFrom X.env.cells scope.names [])) s3.heap.objs.size X.env = ce at I4 pg pt pe ⊢
  have cL : ce.locals = s3.heap.objs.size := by subst hce; rfl
  generalize hH3 : upd H2 D (.lst []) = H3 at I3 I4 pg pt pe w0 nfp f3
  generalize hs4 : ({ s3 with heap := pushCells (s3.heap.push { cls := .type "dict", data := .dict #[] }) scope.names } : Shared) = s4 at I4 ⊢
  have st4 : tn 0 s4.heap := T.keep _ _ _ st3 fun b _ o e => by rw [← hs4]; exact pushCells_keeps _ _ _ _ (Heap.get?_push_of_some _ e)
  have stat : ∀ {σ' : St} {H' : Hp} {s' : Shared}, Inv (X.blk s3 H3 scope ce fp) [] σ' H' s' → (∀ b ∈ fp, H' b = none) → ∀ b ∈ fp, FpOk (X.blk s3 H3 scope ce fp) [] H' b := fun {σ' H' s'} I' hn b hb =>
    ⟨hn b hb, (I'.ok.exf b hb).1, I'.ok.exfs b hb, .inl hb, fun x c e => (I'.ok.exf b hb).2 x c e, fun p hp => absurd (show p ∈ ([] : List (Addr × Obj)) ++ [] from hp) (by simp)⟩
  have loop : codeAny (model X.prog X.w) X.A (.compLoop (.ListComp elt [⟨tg, iter, ifs, 0⟩] scope pos) 0 (.ref it) (.ref D) ce) (compX (model X.prog X.w) X.A X.xe (EP X pins σ Q) (.ref D) s3.heap.objs.size X.env.frame) s4 := by
    refine compLoop_any (fun n s' => ∃ i H', Inv (X.blk s3 H3 scope ce fp) [] (wipe σ (own.map (·.2))) H' s' ∧ tn i s'.heap ∧ (∀ b ∈ fp, H' b = none) ∧ W i n H') ?_ m0 ⟨0, H3, I4, st4, nfp, w0⟩
    rintro n s5 ⟨i, H5, I5, st5, n5, w5⟩
    rcases turn i n H5 w5 with ⟨stop, qq⟩ | ⟨go, Nx, hNx, step⟩
    · have td := T.done (X.blk s3 H3 scope ce fp) rfl rfl rfl hc i [] s5 _ H5 (fun _ _ => False) I5 (stat I5 n5) st5 stop
      refine thnF td fun r s6 ⟨hr, I6⟩ => ?_
      subst hr
      -- back in the def's context
      have I7 : Inv X pins σ H5 s6 := I3.call' (ch := fp) I6.os I6.base I6.hok I6.bare fun b hb => ⟨(f3 b hb).1.2.2.2.1, (f3 b hb).1.2.1, (f3 b hb).1.2.2.2.2.1, (f3 b hb).1.2.2.2.2.2⟩
      have nC : H5 s3.heap.objs.size = none := by
        have z : H5 ce.locals = none := I6.free
        rw [cL] at z
        exact z
      obtain ⟨m, hn, _⟩ := I6.loc
      have hn : s6.heap.Ns ce.locals m := hn
      rw [cL] at hn
      obtain ⟨g0, g1, g2, g3, g4, g5⟩ := I3.fpOk (H' := H5) (Nat.le_refl _) nC
      exact ⟨m, hn, fun h'' sb => ⟨.ref D, H5, I7.turned (t' := s6.toks) (fun b o hb e => (sb.2 b hb).trans e) g0 g1 g3 g4 g5, rfl, qq⟩⟩
    · have ti := T.item (X.blk s3 H3 scope ce fp) rfl rfl rfl hc i [] s5 _ H5 (fun _ _ => False) I5 (stat I5 n5) st5 go
      refine thnF ti fun r s6 ⟨u, hr, h6⟩ => ?_
      subst hr
      refine thnF h6 fun _ s7 ⟨x, H7, I7, r7, y7, st7, n7⟩ => ?_
      have I7' := I7.pinned (stat I7 n7) (T.obj _ _ st7)
      refine thnF (pg.run _ s7 _ H7 x u _ I7' r7 (step x H7 y7)) fun _ s8 ⟨σ8, H8, I8, hw8, q8⟩ => ?_
      refine thnF (pt.run _ s8 σ8 H8 _ I8 q8) fun b s9 ⟨H9, I9, q9⟩ => ?_
      -- the turn's end
      have fin : ∀ {s' : Shared} {H' : Hp}, Inv (X.blk s3 H3 scope ce fp) ([] ++ pinsAt fp s7.heap) σ8 H' s' → Nx H' → ∃ m, m < n ∧ ∃ i H', Inv (X.blk s3 H3 scope ce fp) [] (wipe σ (own.map (·.2))) H' s' ∧ tn i s'.heap ∧ (∀ b ∈ fp, H' b = none) ∧ W i m H' := fun {s' H'} I' nx => by
        obtain ⟨m', hm, w'⟩ := hNx H' nx
        have pin' : ∀ b ∈ fp, ∀ o, s7.heap.get? b = some o → s'.heap.get? b = some o ∧ H' b = none := fun b hb o e =>
          let z := I'.pin (b, o) (List.mem_append_right _ (List.mem_append_right _ (mem_pinsAt hb e)))
          ⟨z.1, z.2.1⟩
        have hl : (wipe σ (own.map (·.2))).length = σ8.length := by rw [← hw8, wipe_length]
        refine ⟨m', hm, i + 1, H', (I'.unpinned (pins := [])).weak hl (fun j v e => ?_), T.keep _ _ _ st7 fun b hb o e => (pin' b hb o e).1, fun b hb => ?_, w'⟩
        · rw [← hw8] at e
          exact (wipe_some e).1
        · obtain ⟨o, e, _⟩ := T.obj _ _ st7 b hb
          exact (pin' b hb o e).2
      cases b with
      | false =>
        simp only [Bool.false_eq_true, if_false] at q9 ⊢
        exact fin I9 q9
      | true =>
        simp only [if_true] at q9 ⊢
        refine wpAny_mono (pe.run _ s9 σ8 H9 _ (I9.wish _) q9) (fun z s10 ⟨yv, H10, I10, r10, acc, hD10, hz10, nx⟩ => ?_) fun _ _ y => y
        exact app_ok (X := X.blk s3 H3 scope ce fp) I10.unwish hD10 hz10 r10 fun s11 I11 => fin I11 nx
  exact codeAny_compStart_list loop (T.self X.A 0 _ _ _ st4 loop)
end
end L2

namespace L2
open PySem PySem.Spec PyProof.Rows
def repS (n : Int) (x : Str) : Str := ⟨(List.replicate n.toNat x.cps).foldl (· ++ ·) #[]⟩
theorem repS_len (x : Array Nat) : ∀ (k : Nat) (a : Array Nat), ((List.replicate k x).foldl (· ++ ·) a).size = a.size + k * x.size
  | 0, a => by simp
  | k + 1, a => by
    rw [List.replicate_succ, List.foldl_cons, repS_len x k (a ++ x), Array.size_append, Nat.succ_mul]
    omega
theorem op_mulS {X : Cx} : OpR X (binaryOp .Mult) (fun x y H Q => ∃ z j, x = .str z ∧ y = .int j ∧ 2 ≤ j ∧ j ≤ 1000 ∧ 1 ≤ z.length ∧ z.length ≤ 1000 ∧ Q (.str (repS j z)) H) := by
  intro pins s σ H x y v u Q I rx ry h
  obtain ⟨z, j, rfl, rfl, h1, h2, h3, h4, q⟩ := h
  obtain ⟨t, rfl⟩ := rx
  obtain ⟨t', rfl⟩ := ry
  have hm : z.length * j.toNat ≤ 1000000 := Nat.le_trans (Nat.mul_le_mul h4 (show j.toNat ≤ 1000 by omega)) (by decide)
  have e1 : (decide (j < -(2 ^ 63 : Int)) || decide (j ≥ 2 ^ 63)) = false := by
    rw [decide_eq_false (show ¬ j < -(2 ^ 63 : Int) by omega), decide_eq_false (show ¬ j ≥ 2 ^ 63 by omega)]
    rfl
  have e2 : (j == 1 || z.length == 0) = false := by
    rw [beq_eq_false_iff_ne.mpr (show j ≠ 1 by omega), beq_eq_false_iff_ne.mpr (show z.length ≠ 0 by omega)]
    rfl
  refine P.mul_str e1 (fun _ _ => ?_) (fun _ _ => ?_) ?_
  · have : (9223372036854775 : Int) ≤ (2 ^ 63 - 1) / j := by
      refine Int.le_ediv_of_mul_le (by omega) ?_
      omega
    omega
  · show decide (z.length * j.toNat > sizeLine) = false
    rw [sizeLine_eq]
    exact decide_eq_false (by omega)
  · rw [if_neg (by omega), e2, if_neg (by decide)]
    refine ⟨?_, .str (repS j z), H, I.tok _, ⟨_, rfl⟩, q⟩
    have : ((List.replicate j.toNat z.cps).foldl (· ++ ·) #[]).size = 0 + j.toNat * z.cps.size := repS_len z.cps j.toNat #[]
    show ((List.replicate j.toNat z.cps).foldl (· ++ ·) #[]).size ≤ sizeLine
    have e3 : z.cps.size = z.length := rfl
    rw [this, sizeLine_eq, e3, Nat.mul_comm]
    omega
end L2
namespace Ab
open PySem PySem.Spec PyProof.Rows L2
section
variable {X : Cx} {c : Ctx} {e a b : Expr} {A B : XE} {pos p : Pos}
/-- text * int -/
def oMulS : XO := fun x y P => ∃ z j, x = .dat (.str z) ∧ y = .dat (.int j) ∧ 2 ≤ j ∧ j ≤ 1000 ∧ 1 ≤ z.length ∧ z.length ≤ 1000 ∧ P (.dat (.str (repS j z)))
theorem oa_mulS : OpA X c (binaryOp .Mult) oMulS := ⟨opR_imp op_mulS fun x y H Q ⟨rx, ry, P, _, r1, r2, ⟨z, j, e1, e2, h1, h2, h3, h4, p⟩, k⟩ => by
  subst e1 e2
  exact ⟨z, j, r1.str, r2.int, h1, h2, h3, h4, k _ H _ (Fx.refl H) (rr_str _) p⟩⟩
theorem mulS_eval {z : Str} {j : Int} {P : RV → Prop} : oMulS (.dat (.str z)) (.dat (.int j)) P = (2 ≤ j ∧ j ≤ 1000 ∧ 1 ≤ z.length ∧ z.length ≤ 1000 ∧ P (.dat (.str (repS j z)))) := by
  unfold oMulS
  simp
/-- int of a truth value -/
def kIntB : XC := fun rs P => ∃ b : Bool, rs = [.dat (.bool b)] ∧ P (.dat (.int (if b then 1 else 0)))
theorem ka_intB : CallA X c (.type "int") kIntB := ⟨callR_imp call_int1 fun vs H Q ⟨rs, P, _, h, ⟨b, e, p⟩, k⟩ => by
  subst e
  obtain ⟨v, rfl, ro⟩ := ros_one h
  exact .inr ⟨b, by rw [ro.bl], k _ H _ (Fx.refl H) (rr_int _) p⟩⟩
theorem intB_eval {b : Bool} {P : RV → Prop} : kIntB [.dat (.bool b)] P = P (.dat (.int (if b then 1 else 0))) := by
  unfold kIntB
  simp
/-- InvalidWord(i).number -/
def aInv (i : Int) : XE := fun _ P => P (.dat (.int i))
theorem ae_inv {C fI : Addr} {i : Int} {j : Nat} {p1 p2 pos2 : Pos} {k : Nat} (T : SupX.SupTxt X.prog X.K C fI) (gC : X.mg "InvalidWord" = some (.ref C)) (gs : X.mg "super" = none) (hr : Room (k + 1) X.A) (hi : i.natAbs.log2 < 1920) (hg : Gl X "InvalidWord" := by rfl)
    (hb : attributeBase (.Call (.Name "InvalidWord" p1) [.Constant (.int i) j p2] [] pos2) "number" X.env (eval (.Call (.Name "InvalidWord" p1) [.Constant (.int i) j p2] [] pos2) X.env) = eval (.Call (.Name "InvalidWord" p1) [.Constant (.int i) j p2] [] pos2) X.env := by rfl)
    (he : starEach ((.Constant (.int i) j p2) :: []) X.env = (false, eval (.Constant (.int i) j p2) X.env) :: starEach [] X.env := by rfl) (hpl : (backTo pos2 (starEach [] X.env)).any (·.1) = false := by rfl) :
    PEa X c (.Attribute (.Call (.Name "InvalidWord" p1) [.Constant (.int i) j p2] [] pos2) "number" pos) (aInv i) :=
  ⟨pe_imp (pe_mkfld ⟨T.ga, T.gg, T.exC, T.hdC⟩ T.noN (pmk_inv T gC gs hr (pa_cons pe_int pa_nil) hg he hpl) hb) fun σ H Q ⟨Γ, P, at_, p, k⟩ =>
    ⟨i, rfl, hi, fun d hd => ⟨rfl, d, _, .int i, rfl, upd_same, by simp [List.lookup], k (.int i) _ (.dat (.int i)) (Fx.new hd).nil (at_.ext (Fx.new hd)) (rr_int _) p⟩⟩⟩
end
end Ab

namespace Lw
open PySem PySem.Spec PyProof.Rows L2 Ab
local macro_rules | `(tactic| walk_at "ab") => `(tactic| simp (maxSteps := 4000000) only [Ab.sSeq, Ab.sNil, Ab.sRet, Ab.sRetN, Ab.sDrop, Ab.sBrk, Ab.sCnt, Ab.sIf, Ab.sSet, Ab.sAsgT, Ab.sPar, Ab.sAug, Ab.sApp, Ab.sPut, Ab.aOp, Ab.aTst, Ab.aChain, Ab.aNeg, Ab.aNotV, Ab.aAndV, Ab.aOrV, Ab.tAndA, Ab.tOrA, Ab.tNotA, Ab.aTru, Ab.aIf, Ab.aNil, Ab.aCons, Ab.aTup, Ab.aLst, Ab.aCall, Ab.aCallD, Ab.aBlt, Ab.aSl, Ab.aNoPart, Ab.aPart, Ab.aLRange, Ab.aTy, Ab.aISeq, Ab.aIR1, Ab.aIR2, Ab.aYes, Ab.aLc, Ab.aLc2, Ab.aIEnum, Ab.enumD_get, Ab.enumD_len, Ab.aCallT, Ab.aCallH, Ab.aCallLam, Ab.aAllG, Ab.G.own.injEq, Ab.resB_t, Ab.resB_f, Ab.oInT, Ab.flatD, Ab.aKey, Ab.kAll, Ab.oIn, Ab.oNin, Ab.aIStr, Ab.sl_s, Ab.ix_s, Ab.oInS, Ab.signD_get, Ab.kIntS, Ab.aJoin, Ab.sRetO, Ab.aOwnAdd, Ab.str_eval, Ab.aLRev, Ab.sAugL, Ab.sPopIx, Ab.sCut, Ab.mulS_eval, Ab.intB_eval, Ab.aInv, Ab.aRef, Ab.oInM, RV.obj.injEq, List.all_map, List.any_map, List.all_nil, List.all_cons, Ab.aIR3, Ab.downD_get, Ab.downD_len, Ab.eq_opt, Ab.ne_opt, Ab.none_opt, Ab.sFor, Ab.sForO, Ab.sWhile, Ab.sNever,
  Ab.v_zero, Ab.v_succ, Ab.c_eval, Ab.i_eval, Ab.add_ii, Ab.add_ss, Ab.add_tt, Ab.add_ll, Ab.mul_ii, Ab.mul_ti, Ab.mul_li, Ab.eq_ii, Ab.ne_ii, Ab.eq_ss, Ab.ne_ss, Ab.eqv_ss, eq_self, Ab.eq_bb, Ab.eq_bools, Ab.ne_bools, Ab.reps_map, Ab.ne_bb, Ab.is_n, Ab.isn_n, Ab.is_b, Ab.isn_b, Ab.ix_t, Ab.ix_n, Ab.ix_v, Ab.ix_a, Ab.sl_t, Ab.sl_n, Ab.sl_v, Ab.sl_a, Ab.len_t, Ab.len_n, Ab.len_v, Ab.len_a, Ab.len_s, Ab.abs_eval, Ab.int_eval, Ab.max_eval, Ab.min_eval, Ab.list_t, Ab.list_n, Ab.list_v, Ab.list_a, Ab.tuple_t, Ab.tuple_n, Ab.tuple_v, Ab.tuple_a, Ab.sum_eval, Ab.isi_eval, Ab.isi_bool_int, Ab.rangeD_get, Ab.rangeD_len, Ab.nums_bool, Ab.nums_int, and_imp, forall_eq, forall_exists_index, Ab.fall_app2, Ab.sz_0, Ab.sz_1, Ab.sz_2, Ab.sz_3, Ab.sz_4, Ab.sz_5, Ab.sz_6, Ab.sz_7, Ab.sz_8, Ab.cutD_map, Ab.map_get,  List.length_map,  Ab.isi_bool_bool,
  Ab.fin, Ab.gam0, Ab.wipeG, Ab.rv_dat, Ab.rv_vw, Ab.rv_own, Ab.rv_obj, Ab.slot_dat, Ab.arg_dat, Ab.argG_dat, Ab.ret_dat, Ab.gh_dat, Ab.lst_dat, Ab.dt_dat, Ab.slot_new, Ab.arg_new, Ab.argG_new, Ab.ret_new, Ab.gh_new, Ab.lst_new, Ab.dt_new, Ab.truth_new, Ab.seqOf_new, Ab.slot_vw, Ab.arg_vw, Ab.argG_vw, Ab.ret_vw, Ab.gh_vw, Ab.lst_vw, Ab.dt_vw, Ab.truth_vw, Ab.seqOf_vw, Ab.slot_al, Ab.arg_al, Ab.argG_al, Ab.ret_al, Ab.gh_al, Ab.lst_al, Ab.dt_al, Ab.truth_al, Ab.seqOf_al, Ab.slot_obj, Ab.arg_obj, Ab.argG_obj, Ab.ret_obj, Ab.gh_obj, Ab.lst_obj, Ab.dt_obj, Ab.truth_tup, Ab.seqOf_tup, Ab.truth_bool, Ab.truth_int, Ab.truth_none, Ab.datas_nil, Ab.datas_cons, Ab.go_nm, Ab.go_tp, Ab.sets_nil, Ab.sets_cons, Ab.at_0, Ab.at_1, Ab.at_2, Ab.at_3, Ab.at_4, Ab.at_5, Ab.at_6, Ab.at_last,
  List.map_cons, List.map_nil, List.length_cons, List.length_nil, List.replicate, List.cons_append, List.nil_append, List.set_cons_zero, List.set_cons_succ, List.getElem?_cons_zero, List.getElem?_cons_succ, Option.map_some, Option.some.injEq, Option.bind_some, RV.dat.injEq, RV.new.injEq, PyData.int.injEq, PyData.bool.injEq, PyData.tuple.injEq, PyData.str.injEq, exists_eq_left', exists_eq_left, exists_eq_right, exists_and_left, exists_and_right, true_and, and_true, if_true, if_false, reduceCtorEq, false_and, and_false, false_or, or_false, exists_false, decide_true, decide_false, Bool.false_eq_true, ite_true, ite_false, Nat.reduceSub, Nat.reduceAdd, Nat.reduceLT, Nat.lt_add_one, Nat.zero_lt_succ, Nat.succ_lt_succ_iff, Nat.not_lt_zero])
/-! ### the text by places -/
def topS (i : Nat) : Stmt := PySem.Challenge.pw_sumsaid_k20_written_sayings_refused.main.body.getD i (.Pass ⟨0, 0, 0, 0⟩)
abbrev s_Words___init__ : Stmt := inClass (topS 14) 0
abbrev n_Words___init__ : List Str := ["self", "text"]
theorem sc_Words___init__ : FnScope n_Words___init__ ["self", "text"] (defScope s_Words___init__) := ⟨rfl, rfl, rfl, by decide +kernel, rfl, by decide +kernel, by decide +kernel⟩
abbrev s_Words_word : Stmt := inClass (topS 14) 1
abbrev n_Words_word : List Str := ["self"]
theorem sc_Words_word : FnScope n_Words_word ["self"] (defScope s_Words_word) := ⟨rfl, rfl, rfl, by decide +kernel, rfl, by decide +kernel, by decide +kernel⟩
abbrev s_Words_number : Stmt := inClass (topS 14) 2
abbrev n_Words_number : List Str := ["self", "low", "high", "found"]
theorem sc_Words_number : FnScope n_Words_number ["self", "low", "high"] (defScope s_Words_number) := ⟨rfl, rfl, rfl, by decide +kernel, rfl, by decide +kernel, by decide +kernel⟩
abbrev s_Words_factors : Stmt := inClass (topS 14) 3
abbrev n_Words_factors : List Str := ["self", "found", "word", "number"]
theorem sc_Words_factors : FnScope n_Words_factors ["self"] (defScope s_Words_factors) := ⟨rfl, rfl, rfl, by decide +kernel, rfl, by decide +kernel, by decide +kernel⟩
abbrev s_Words_line : Stmt := inClass (topS 14) 4
abbrev n_Words_line : List Str := ["self", "name", "made", "factors", "divisor", "_"]
theorem sc_Words_line : FnScope n_Words_line ["self"] (defScope s_Words_line) := ⟨rfl, rfl, rfl, by decide +kernel, rfl, by decide +kernel, by decide +kernel⟩
abbrev s_number_of : Stmt := topS 13
abbrev n_number_of : List Str := ["word", "low", "high", "digits", "number", "one"]
theorem sc_number_of : FnScope n_number_of ["word", "low", "high"] (defScope s_number_of) := ⟨rfl, rfl, rfl, by decide +kernel, rfl, by decide +kernel, by decide +kernel⟩
abbrev s_parse_saying : Stmt := topS 15
abbrev n_parse_saying : List Str := ["text", "words"]
theorem sc_parse_saying : FnScope n_parse_saying ["text"] (defScope s_parse_saying) := ⟨rfl, rfl, rfl, by decide +kernel, rfl, by decide +kernel, by decide +kernel⟩
abbrev s_l_draw : Stmt := topS 17
abbrev n_l_draw : List Str := ["_law_state", "_law_limit", "_law_digit", "_law_position", "_law_cell", "_law_mixed"]
theorem sc_l_draw : FnScope n_l_draw ["_law_state", "_law_limit"] (defScope s_l_draw) := ⟨rfl, rfl, rfl, by decide +kernel, rfl, by decide +kernel, by decide +kernel⟩
abbrev s_l_factors : Stmt := topS 18
abbrev n_l_factors : List Str := ["_law_state", "_law_count", "_law_far", "_law_row", "_law_k"]
theorem sc_l_factors : FnScope n_l_factors ["_law_state", "_law_count", "_law_far"] (defScope s_l_factors) := ⟨rfl, rfl, rfl, by decide +kernel, rfl, by decide +kernel, by decide +kernel⟩
abbrev s_l_atom : Stmt := topS 19
abbrev n_l_atom : List Str := ["_law_state", "_law_count", "_law_far", "_law_factors_here", "_law_m"]
theorem sc_l_atom : FnScope n_l_atom ["_law_state", "_law_count", "_law_far"] (defScope s_l_atom) := ⟨rfl, rfl, rfl, by decide +kernel, rfl, by decide +kernel, by decide +kernel⟩
abbrev s_l_plain : Stmt := topS 20
abbrev n_l_plain : List Str := ["_law_state", "_law_count", "_law_many", "_law_far", "_law_lines", "_law_k", "_law_number", "_law_choice", "_law_other"]
theorem sc_l_plain : FnScope n_l_plain ["_law_state", "_law_count", "_law_many", "_law_far"] (defScope s_l_plain) := ⟨rfl, rfl, rfl, by decide +kernel, rfl, by decide +kernel, by decide +kernel⟩
abbrev s_l_words : Stmt := topS 21
abbrev n_l_words : List Str := ["_law_lines", "_law_number", "_law_line", "_law_made", "_law_other", "_law_one"]
theorem sc_l_words : FnScope n_l_words ["_law_lines", "_law_number"] (defScope s_l_words) := ⟨rfl, rfl, rfl, by decide +kernel, rfl, by decide +kernel, by decide +kernel⟩
abbrev s_l_told : Stmt := topS 22
abbrev n_l_told : List Str := ["_law_text", "error"]
theorem sc_l_told : FnScope n_l_told ["_law_text"] (defScope s_l_told) := ⟨rfl, rfl, rfl, by decide +kernel, rfl, by decide +kernel, by decide +kernel⟩
abbrev s_l_odd : Stmt := topS 23
abbrev n_l_odd : List Str := ["_law_state", "_law_words_here", "_law_at", "_law_left"]
theorem sc_l_odd : FnScope n_l_odd ["_law_state", "_law_words_here", "_law_at"] (defScope s_l_odd) := ⟨rfl, rfl, rfl, by decide +kernel, rfl, by decide +kernel, by decide +kernel⟩
abbrev s_law : Stmt := topS 24
abbrev n_law : List Str := ["_law_script", "_law_state", "_law_saying", "_law_words_here", "_law_k", "_law_leaves", "_law_many", "_law_at"]
theorem sc_law : FnScope n_law ["_law_script"] (defScope s_law) := ⟨rfl, rfl, rfl, by decide +kernel, rfl, by decide +kernel, by decide +kernel⟩
def tab_LINES (z : Str) : Option PyData := if z = "not" then some (.int 1) else if z = "both" then some (.int 2) else if z = "there" then some (.int 1) else none
def mem_LINES : List (Str × Bool) := [("not", true), ("both", true), ("there", true), ("below", false), ("rest", false), ("", false), ("x", false), ("Below", false), (":", false), ("belo", false), (";;", false), ("10", false), ("1.5", false), ("--1", false), ("\tbelow", false)]
/-! #### errs -/
/-! the law's errors: InvalidWord (its own __init__, one field), TooLarge; over SumsaidError, over ValueError -/
abbrev veBm : List Value := [.type "ValueError", .type "Exception", .type "BaseException", .type "object"]
structure Errs (P : Program) (K : PySem.W.Frag) (mg : Str → Option Value) where
  I : Addr
  T : Addr
  U : Addr
  N : Addr
  S : Addr
  f : Addr
  sup : SupX.SupTxt P K I f
  gI : mg "InvalidWord" = some (.ref I)
  gT : mg "TooLarge" = some (.ref T)
  gU : mg "UnknownName" = some (.ref U)
  gN : mg "NotFitting" = some (.ref N)
  gS : mg "SumsaidError" = some (.ref S)
  gV : mg "ValueError" = none
  gsu : mg "super" = none
  too : PySem.W.excIn K T veBm "ValueError.__new__" = true
  kT : PySem.W.keepIn K (.ref T) = true
  exT : PySem.W.subIn K (.ref T) (.type "BaseException") = some true
  tyT : PySem.W.typeIn K (.ref T) = some (.type "type")
  cI : ExcC K I
  cT : ExcC K T
  eII : PySem.W.exmOne K (.ref I) (.ref I) = some true
  eTI : PySem.W.exmOne K (.ref T) (.ref I) = some false
  eTT : PySem.W.exmOne K (.ref T) (.ref T) = some true
  kIT : PySem.W.kitOne K (.ref I) (.ref T) = some false
  kIU : PySem.W.kitOne K (.ref I) (.ref U) = some false
  kIN : PySem.W.kitOne K (.ref I) (.ref N) = some false
  kIS : PySem.W.kitOne K (.ref I) (.ref S) = some true
  kIV : PySem.W.kitOne K (.ref I) (.type "ValueError") = some true
  kTN : PySem.W.kitOne K (.ref T) (.ref N) = some false
  kTU : PySem.W.kitOne K (.ref T) (.ref U) = some false
  kTI : PySem.W.kitOne K (.ref T) (.ref I) = some false
  kTS : PySem.W.kitOne K (.ref T) (.ref S) = some true
theorem Errs.xI {P : Program} {K : PySem.W.Frag} {mg : Str → Option Value} (er : Errs P K mg) : XfC K er.I := ⟨er.sup.ga, er.sup.gg, er.sup.exC, er.sup.hdC⟩
/-- what passes a def that lets all out -/
theorem pX {X : Cx} {E : XK} (tk : Takes X (fun cls d _ H => E cls d H)) : Passes (L2.CX X.prog X.w) X E := passes_call tk fun _ _ _ _ h => h
/-- InvalidWord(n) leaves -/
def BadE (I : Addr) (J : Hp → Prop) (S : List Addr) (H : Hp) (n : Int) (E : XK) : Prop := ∀ d H', J H' → Fx S H H' → H' d = some (.xd [(("number" : Str), .int n)]) → E (.ref I) (some d) H'
theorem fn_noneX {P : Program} {w : World} {K : PySem.W.Frag} {mg : Str → Option Value} {base : Heap} {k : Nat} {f : Addr} {fd : FuncData} {ps : List Str} {sp : Sp} (h : ∀ vs H Q E, ¬ sp vs H Q E) : FnOk P w K mg base (L2.CX P w) k f fd ps sp :=
  ⟨fun vs H Q E q => absurd q (h vs H Q E), fun A outer s H args us vs Q E _ _ _ _ q => absurd q (h vs H Q E)⟩
/-- where the defs stand -/
structure Txt (P : Program) (w : World) (K : PySem.W.Frag) (mg : Str → Option Value) where
  C_Words : Addr
  cl_Words : Cls K C_Words
  mC_Words : mg "Words" = some (.ref C_Words)
  na_Words_row : NoAttr K C_Words "row"
  na_Words_position : NoAttr K C_Words "position"
  na_Words_lines : NoAttr K C_Words "lines"
  a_Words___init__ : Addr
  fd_Words___init__ : FuncData
  F_Words___init__ : Fun K "__init__" "Words.__init__" s_Words___init__ a_Words___init__ fd_Words___init__
  b_Words___init__ : Binds K fd_Words___init__ ["self", "text"] []
  mk_Words : Mk K C_Words a_Words___init__
  a_Words_word : Addr
  fd_Words_word : FuncData
  F_Words_word : Fun K "word" "Words.word" s_Words_word a_Words_word fd_Words_word
  b_Words_word : Binds K fd_Words_word ["self"] []
  me_Words_word : Meth K C_Words "word" a_Words_word
  a_Words_number : Addr
  fd_Words_number : FuncData
  F_Words_number : Fun K "number" "Words.number" s_Words_number a_Words_number fd_Words_number
  b_Words_number : Binds K fd_Words_number ["self", "low", "high"] []
  me_Words_number : Meth K C_Words "number" a_Words_number
  a_Words_factors : Addr
  fd_Words_factors : FuncData
  F_Words_factors : Fun K "factors" "Words.factors" s_Words_factors a_Words_factors fd_Words_factors
  b_Words_factors : Binds K fd_Words_factors ["self"] []
  me_Words_factors : Meth K C_Words "factors" a_Words_factors
  a_Words_line : Addr
  fd_Words_line : FuncData
  F_Words_line : Fun K "line" "Words.line" s_Words_line a_Words_line fd_Words_line
  b_Words_line : Binds K fd_Words_line ["self"] []
  me_Words_line : Meth K C_Words "line" a_Words_line
  a_number_of : Addr
  fd_number_of : FuncData
  c_number_of : Addr
  t_number_of : Addr
  F_number_of : FunT K "number_of" "number_of" s_number_of a_number_of fd_number_of c_number_of
  m_number_of : mg "number_of" = some (.ref a_number_of)
  b_number_of : Binds K fd_number_of ["word", "low", "high"] []
  a_parse_saying : Addr
  fd_parse_saying : FuncData
  F_parse_saying : Fun K "parse_saying" "parse_saying" s_parse_saying a_parse_saying fd_parse_saying
  m_parse_saying : mg "parse_saying" = some (.ref a_parse_saying)
  b_parse_saying : Binds K fd_parse_saying ["text"] []
  a_l_draw : Addr
  fd_l_draw : FuncData
  F_l_draw : Fun K "_law_draw" "_law_draw" s_l_draw a_l_draw fd_l_draw
  m_l_draw : mg "_law_draw" = some (.ref a_l_draw)
  b_l_draw : Binds K fd_l_draw ["_law_state", "_law_limit"] []
  a_l_factors : Addr
  fd_l_factors : FuncData
  F_l_factors : Fun K "_law_factors" "_law_factors" s_l_factors a_l_factors fd_l_factors
  m_l_factors : mg "_law_factors" = some (.ref a_l_factors)
  b_l_factors : Binds K fd_l_factors ["_law_state", "_law_count", "_law_far"] []
  a_l_atom : Addr
  fd_l_atom : FuncData
  F_l_atom : Fun K "_law_atom" "_law_atom" s_l_atom a_l_atom fd_l_atom
  m_l_atom : mg "_law_atom" = some (.ref a_l_atom)
  b_l_atom : Binds K fd_l_atom ["_law_state", "_law_count", "_law_far"] []
  a_l_plain : Addr
  fd_l_plain : FuncData
  F_l_plain : Fun K "_law_plain" "_law_plain" s_l_plain a_l_plain fd_l_plain
  m_l_plain : mg "_law_plain" = some (.ref a_l_plain)
  b_l_plain : Binds K fd_l_plain ["_law_state", "_law_count", "_law_many", "_law_far"] []
  a_l_words : Addr
  fd_l_words : FuncData
  F_l_words : Fun K "_law_words" "_law_words" s_l_words a_l_words fd_l_words
  m_l_words : mg "_law_words" = some (.ref a_l_words)
  b_l_words : Binds K fd_l_words ["_law_lines", "_law_number"] []
  a_l_told : Addr
  fd_l_told : FuncData
  F_l_told : Fun K "_law_told" "_law_told" s_l_told a_l_told fd_l_told
  m_l_told : mg "_law_told" = some (.ref a_l_told)
  b_l_told : Binds K fd_l_told ["_law_text"] []
  a_l_odd : Addr
  fd_l_odd : FuncData
  F_l_odd : Fun K "_law_odd" "_law_odd" s_l_odd a_l_odd fd_l_odd
  m_l_odd : mg "_law_odd" = some (.ref a_l_odd)
  b_l_odd : Binds K fd_l_odd ["_law_state", "_law_words_here", "_law_at"] []
  a_law : Addr
  fd_law : FuncData
  F_law : Fun K "law" "law" s_law a_law fd_law
  m_law : mg "law" = some (.ref a_law)
  b_law : Binds K fd_law ["_law_script"] []
  z_all : mg "all" = none
  z_int : mg "int" = none
  z_isinstance : mg "isinstance" = none
  z_len : mg "len" = none
  z_list : mg "list" = none
  z_max : mg "max" = none
  z_range : mg "range" = none
  z_str : mg "str" = none
  z_tuple : mg "tuple" = none
  k_MOST_LINES : ∃ t, mg "MOST_LINES" = some (.int 40 t)
  k_MOST_FACTORS : ∃ t, mg "MOST_FACTORS" = some (.int 6 t)
  k_MOST_FACTOR : ∃ t, mg "MOST_FACTOR" = some (.int 9 t)
  k_MOST_CONSTANT : ∃ t, mg "MOST_CONSTANT" = some (.int 99 t)
  k_MOST_DIVISOR : ∃ t, mg "MOST_DIVISOR" = some (.int 12 t)
  x_LINES : ∃ a, mg "LINES" = some (.ref a) ∧ KMem K w a mem_LINES
  d_LINES : ∃ a, mg "LINES" = some (.ref a) ∧ KTab K w a tab_LINES
  er : Errs P K mg
def Txt.Tb {P : Program} {w : World} {K : PySem.W.Frag} {mg : Str → Option Value} (T : Txt P w K mg) : List (Addr × Str) := [(T.t_number_of, ((("number_of" : Str) ++ ".<locals>.") ++ "<genexpr>" : Str))]
theorem Txt.mem_number_of {P : Program} {w : World} {K : PySem.W.Frag} {mg : Str → Option Value} (T : Txt P w K mg) : (T.t_number_of, ((("number_of" : Str) ++ ".<locals>.") ++ "<genexpr>" : Str)) ∈ T.Tb := by simp [Txt.Tb]
theorem Txt.in_number_of {P : Program} {w : World} {K : PySem.W.Frag} {mg : Str → Option Value} (T : Txt P w K mg) {st : Addr} : T.t_number_of ∈ st :: T.Tb.map (·.1) := by simp [Txt.Tb]
theorem Txt.only_number_of {P : Program} {w : World} {K : PySem.W.Frag} {mg : Str → Option Value} (T : Txt P w K mg) : ∀ p ∈ T.Tb, p.1 = T.t_number_of → p.2 = ((("number_of" : Str) ++ ".<locals>.") ++ "<genexpr>" : Str) := by
  intro p hp e
  unfold Txt.Tb at hp
  simp only [List.mem_cons, List.not_mem_nil, or_false] at hp
  rcases hp with rfl
  · rfl
section
variable {P : Program} {w : World} {K : PySem.W.Frag} {mg : Str → Option Value} {base : Heap}
/-! ### Words.__init__ -/
/-! #### lines -/
/-! lines of a saying, also such as are not right -/
inductive RK where
  | no
  | bo
  | th
deriving DecidableEq
def RK.name : RK → Str
  | .no => "not"
  | .bo => "both"
  | .th => "there"
def RK.n : RK → Nat
  | .no => 1
  | .bo => 2
  | .th => 1
inductive Ln where
  | e
  | bel (fs r : List Int)
  | res (fs r : List Int)
  | ref (k : RK) (os : List Int)
  | und (os : List Int)
deriving DecidableEq
def intsD (xs : List Int) : PyData := .tuple (xs.map .int)
def lnD : Ln → PyData
  | .e => .tuple []
  | .bel fs r => .tuple (.str "below" :: intsD fs :: r.map .int)
  | .res fs r => .tuple (.str "rest" :: intsD fs :: r.map .int)
  | .ref k os => .tuple (.str k.name :: os.map .int)
  | .und os => .tuple (.str "under" :: os.map .int)
def okF (fs : List Int) : Bool := decide (fs.length ≤ 6) && fs.all fun f => decide (-9 ≤ f) && decide (f ≤ 9)
def okL (n : Int) : Ln → Bool
  | .e => false
  | .und _ => false
  | .bel fs [c] => okF fs && (decide (-99 ≤ c) && decide (c ≤ 99))
  | .bel _ _ => false
  | .res fs [m, r] => okF fs && ((decide (1 ≤ m) && decide (m ≤ 12)) && (decide (0 ≤ r) && decide (r < m)))
  | .res _ _ => false
  | .ref k os => decide (os.length = k.n) && os.all fun o => decide (0 ≤ o) && decide (o < n)
/-- the lines from the number n on are right -/
def okFrom (n : Int) : List Ln → Bool
  | [] => true
  | l :: ls => okL n l && okFrom (n + 1) ls
def okS (ls : List Ln) : Bool := decide (1 ≤ ls.length) && decide (ls.length ≤ 40) && okFrom 0 ls
def sayD (ls : List Ln) : PyData := .tuple (ls.map lnD)
def isTh : Ln → Bool
  | .ref .th _ => true
  | _ => false
/-! #### words -/
/-! the words of a line, the line laid out by itself: by numbers (f: how far) -/
def numW (n : Int) : Str := (toString n : String)
def lineW (g : Nat → List Str) : Ln → List Str
  | .bel fs r => ("below" : Str) :: (fs.map numW ++ (";" : Str) :: r.map numW)
  | .res fs r => ("rest" : Str) :: (fs.map numW ++ (";" : Str) :: r.map numW)
  | .ref k os => k.name :: os.flatMap fun o => g o.toNat
  | _ => []
def wordsF (ls : List Ln) : Nat → Nat → List Str
  | 0, _ => []
  | f + 1, n => match ls[n]? with
    | some l => lineW (wordsF ls f) l
    | none => []
def wordsOf (ls : List Ln) (n : Nat) : List Str := wordsF ls (n + 1) n
theorem wordsF_one {ls : List Ln} {f n : Nat} {l : Ln} (e : ls[n]? = some l) : wordsF ls (f + 1) n = lineW (wordsF ls f) l := by rw [wordsF, e]
theorem flat_congr {α β : Type} {f g : α → List β} : ∀ {l : List α}, (∀ a ∈ l, f a = g a) → l.flatMap f = l.flatMap g
  | [], _ => rfl
  | x :: xs, h => by rw [List.flatMap_cons, List.flatMap_cons, h x (by simp), flat_congr fun a ha => h a (by simp [ha])]
theorem okFrom_at : ∀ {ls : List Ln} {s : Int} {n : Nat} {l : Ln}, okFrom s ls = true → ls[n]? = some l → okL (s + (n : Nat)) l = true
  | [], _, _, _, _, h => by simp at h
  | x :: xs, s, 0, l, h, e => by
    simp at e
    subst e
    rw [okFrom, Bool.and_eq_true] at h
    simpa using h.1
  | x :: xs, s, n + 1, l, h, e => by
    rw [okFrom, Bool.and_eq_true] at h
    have := okFrom_at (n := n) h.2 (by simpa using e)
    rw [show s + ((n + 1 : Nat) : Int) = s + 1 + (n : Nat) by omega]
    exact this
theorem okL_ref {n : Int} {k : RK} {os : List Int} (h : okL n (.ref k os) = true) : os.length = k.n ∧ ∀ o ∈ os, 0 ≤ o ∧ o < n := by
  unfold okL at h
  simp only [Bool.and_eq_true, decide_eq_true_eq, List.all_eq_true] at h
  exact ⟨h.1, fun o ho => h.2 o ho⟩
theorem wordsF_more {ls : List Ln} (h : okFrom 0 ls = true) : ∀ (f n : Nat), n < f → wordsF ls f n = wordsOf ls n
  | 0, n, hn => by omega
  | f + 1, n, hn => by
    unfold wordsOf
    cases e : ls[n]? with
    | none => rw [wordsF, wordsF, e]
    | some l =>
      rw [wordsF_one e, wordsF_one e]
      cases l with
      | ref k os =>
        have hk := (okL_ref (okFrom_at h e)).2
        show k.name :: _ = k.name :: _
        congr 1
        refine flat_congr fun o ho => ?_
        have := hk o ho
        rw [wordsF_more h f o.toNat (by omega)]
        by_cases hf : n < f
        · rw [wordsF_more h n o.toNat (by omega)]
        · have : f = n := by omega
          subst this
          rw [wordsF_more h f o.toNat (by omega)]
      | e => rfl
      | bel fs r => rfl
      | res fs r => rfl
      | und os => rfl
theorem wordsOf_ref {ls : List Ln} (h : okFrom 0 ls = true) {n : Nat} {k : RK} {os : List Int} (e : ls[n]? = some (.ref k os)) : wordsOf ls n = k.name :: os.flatMap fun o => wordsOf ls o.toNat := by
  have hk := (okL_ref (okFrom_at h e)).2
  unfold wordsOf
  rw [wordsF_one e]
  show k.name :: _ = k.name :: _
  congr 1
  refine flat_congr fun o ho => ?_
  have := hk o ho
  exact wordsF_more h n o.toNat (by omega)
/-- the factors' numbers are small -/
def SmallL : Ln → Prop
  | .bel fs r => (∀ f ∈ fs, -1000 ≤ f ∧ f ≤ 1000) ∧ fs.length ≤ 10 ∧ ∃ c, r = [c] ∧ -1000 ≤ c ∧ c ≤ 1000
  | .res fs r => (∀ f ∈ fs, -1000 ≤ f ∧ f ≤ 1000) ∧ fs.length ≤ 10 ∧ ∃ c d, r = [c, d] ∧ -1000 ≤ c ∧ c ≤ 1000 ∧ -1000 ≤ d ∧ d ≤ 1000
  | .ref _ _ => True
  | _ => False
theorem wordsOf_ne {ls : List Ln} {n : Nat} (hn : n < ls.length) (sm : ∀ l ∈ ls, SmallL l) : 0 < (wordsOf ls n).length := by
  obtain ⟨l, el⟩ : ∃ l, ls[n]? = some l := ⟨ls[n], List.getElem?_eq_getElem hn⟩
  have hs := sm l (List.mem_of_getElem? el)
  unfold wordsOf
  rw [wordsF_one el]
  cases l with
  | e => exact hs.elim
  | und os => exact hs.elim
  | bel fs r => simp [lineW]
  | res fs r => simp [lineW]
  | ref k os => simp [lineW]
theorem flat_len {ls : List Ln} (sm : ∀ l ∈ ls, SmallL l) : ∀ {st : List Nat}, (∀ n ∈ st, n < ls.length) → st.length ≤ (st.flatMap (wordsOf ls)).length
  | [], _ => Nat.zero_le _
  | n :: st, h => by
    rw [List.flatMap_cons, List.length_append, List.length_cons]
    have h1 := wordsOf_ne (h n (by simp)) sm
    have h2 := flat_len sm (st := st) fun k hk => h k (by simp [hk])
    omega
/-! #### dr -/
/-! the list that draws are made from -/
/-- the list that draws are made from: at st; the script's ints at scr; the tables of code objects -/
def Dr (K : PySem.W.Frag) (Tb : List (Addr × Str)) (st scr : Addr) (ns : List Int) (H : Hp) : Prop := (scr ≠ st ∧ SqL K H scr (ns.map V.int) ∧ ∃ a p s : Int, 0 ≤ p ∧ H st = some (.lst [.int a, .int p, .ref scr, .int s])) ∧ LamX.Tabs Tb H
def drW (K : PySem.W.Frag) (Tb : List (Addr × Str)) : Addr → (Hp → Prop) → Prop := fun st J => ∃ scr ns, J = Dr K Tb st scr ns
theorem drOk {K : PySem.W.Frag} {Tb : List (Addr × Str)} : ∀ a J H, drW K Tb a J → J H → (cx0 K (a :: Tb.map (·.1)) J H).Ok := by
  rintro st J H ⟨scr, ns, rfl⟩ ⟨⟨h1, h2, a, p, s, h3, h4⟩, ht⟩
  refine ⟨⟨⟨h1, h2, a, p, s, h3, h4⟩, ht⟩, ?_, ?_⟩
  · rintro H' ⟨⟨_, _, a, p, s, _, h⟩, ht'⟩ b hb
    rcases List.mem_cons.mp hb with e | e
    · rw [e, h]
      simp
    · obtain ⟨q, hq, e⟩ := List.mem_map.mp e
      obtain ⟨ts, hP, _⟩ := ht' q hq
      rw [← e, show H' q.1 = _ from hP]
      simp
  · rintro H1 H2 ⟨⟨_, g2, a', p', s', g3, g4⟩, gt⟩ k
    refine ⟨⟨h1, ?_, a', p', s', g3, k st _ (.inl (by show H st ≠ none; rw [h4]; simp)) g4⟩, tabs_keep gt fun b o n e => k b o (.inr n) e⟩
    rcases h2 with (h2 | ⟨o, h2⟩) | h2
    · rcases g2 with (g2 | ⟨o, g2⟩) | g2
      · exact .inl (.inl (k scr _ (.inl (by show H scr ≠ none; rw [h2]; simp)) g2))
      · exact .inl (.inr ⟨o, k scr _ (.inl (by show H scr ≠ none; rw [h2]; simp)) g2⟩)
      · exact .inr g2
    · rcases g2 with (g2 | ⟨o, g2⟩) | g2
      · exact .inl (.inl (k scr _ (.inl (by show H scr ≠ none; rw [h2]; simp)) g2))
      · exact .inl (.inr ⟨o, k scr _ (.inl (by show H scr ≠ none; rw [h2]; simp)) g2⟩)
      · exact .inr g2
    · exact .inr h2
/-- the lambda's table, of what stands -/
theorem dr_tab {K : PySem.W.Frag} {Tb : List (Addr × Str)} {st : Addr} {J : Hp → Prop} {Pt : Addr} {q : Str} (hW : drW K Tb st J) (hm : (Pt, q) ∈ Tb) (H : Hp) (j : J H) : LamX.TabS H Pt q := by
  obtain ⟨scr, ns, rfl⟩ := hW
  exact j.2 _ hm
theorem dr_tab2 {K : PySem.W.Frag} {Tb : List (Addr × Str)} {st : Addr} {J : Hp → Prop} {Pt : Addr} {q : Str} (hW : drW K Tb st J) (hm : (Pt, q) ∈ Tb) (hu : ∀ p ∈ Tb, p.1 = Pt → p.2 = q) (H H1 : Hp) (j : J H) (t1 : LamX.TabS H1 Pt q) (e : ∀ b o, b ≠ Pt → H b = some o → H1 b = some o) : J H1 := by
  obtain ⟨scr, ns, rfl⟩ := hW
  obtain ⟨⟨h1, h2, a, p, s, h3, h4⟩, ht⟩ := j
  obtain ⟨ts, hP, _⟩ := ht _ hm
  have nl : ∀ {b u}, H b = some u → (∀ ps, u ≠ .tbl ps) → b ≠ Pt := fun {b u} g n z => by
    rw [z, show H Pt = _ from hP] at g
    exact n _ (Option.some.inj g).symm
  refine ⟨⟨h1, ?_, a, p, s, h3, e _ _ (nl h4 fun _ z => by cases z) h4⟩, tabs_one ht hm hu t1 e⟩
  rcases h2 with (h2 | ⟨o, h2⟩) | h2
  · exact .inl (.inl (e _ _ (nl h2 fun _ z => by cases z) h2))
  · exact .inl (.inr ⟨o, e _ _ (nl h2 fun _ z => by cases z) h2⟩)
  · exact .inr h2
theorem dr_noext {K : PySem.W.Frag} {Tb : List (Addr × Str)} {st : Addr} {J : Hp → Prop} (hW : drW K Tb st J) (H : Hp) (j : J H) : ∀ b ∈ st :: Tb.map (·.1), ∀ φ, H b ≠ some (.ext φ) := by
  obtain ⟨scr, ns, rfl⟩ := hW
  intro b hb φ z
  rcases List.mem_cons.mp hb with e | e
  · obtain ⟨⟨_, _, a, p, s, _, h4⟩, _⟩ := j
    rw [e, h4] at z
    cases z
  · obtain ⟨q, hq, e⟩ := List.mem_map.mp e
    obtain ⟨ts, hP, _⟩ := j.2 q hq
    rw [← e, show H q.1 = _ from hP] at z
    cases z
/-! #### wobj -/
/-! the object that reads words: its row at ra, the place p, its lines at la -/
def wf (ra : Addr) (p : Nat) (la : Addr) : List (Str × V) := [("row", .ref ra), ("position", .int (p : Int)), ("lines", .ref la)]
theorem wf_row {ra la : Addr} {p : Nat} : (wf ra p la).lookup ("row" : Str) = some (V.ref ra) := by unfold wf; with_unfolding_all rfl
theorem wf_pos {ra la : Addr} {p : Nat} : (wf ra p la).lookup ("position" : Str) = some (V.int (p : Int)) := by unfold wf; with_unfolding_all rfl
theorem wf_lines {ra la : Addr} {p : Nat} : (wf ra p la).lookup ("lines" : Str) = some (V.ref la) := by unfold wf; with_unfolding_all rfl
theorem wf_no {ra la : Addr} {p : Nat} {m : Str} (h1 : (m == ("row" : Str)) = false := by decide +kernel) (h2 : (m == ("position" : Str)) = false := by decide +kernel) (h3 : (m == ("lines" : Str)) = false := by decide +kernel) : (wf ra p la).lookup m = none := by
  unfold wf
  rw [List.lookup_cons, List.lookup_cons, List.lookup_cons]
  simp only [h1, h2, h3, List.lookup_nil]
theorem wf_put {ra la : Addr} {p : Nat} {q : Int} (h : 0 ≤ q) : putF "position" (.int q) (wf ra p la) = wf ra q.toNat la := by
  have : q = ((q.toNat : Nat) : Int) := by omega
  unfold wf
  rw [← this]
  with_unfolding_all rfl
/-- what stands still -/
structure WSt (K : PySem.W.Frag) (S : List Addr) (J : Hp → Prop) (a ra la : Addr) (row : List Str) : Prop where
  na : a ∉ S
  nr : ra ∉ S
  nl : la ∉ S
  ne : la ≠ ra
  hz : row.length ≤ 1000000
  stab : ∀ H1 H2, J H1 → (∃ xs, H1 la = some (.lst xs)) → (∀ b o, b ≠ la → (∀ C dx fs, o ≠ .ins C dx fs) → H1 b = some o → H2 b = some o) → J H2
/-- where the reading is: at word p, ls are read -/
structure WAt (K : PySem.W.Frag) (C : Addr) (J : Hp → Prop) (a ra la : Addr) (row : List Str) (H : Hp) (p : Nat) (ls : List PyData) : Prop where
  at_ : ∃ dx, H a = some (.ins C dx (wf ra p la))
  row : H ra = some (.lst (row.map V.str))
  lin : ∃ vs, H la = some (.lst vs) ∧ DpAll K H vs ls ∧ immAll ls = true
  j : J H
section
variable {K : PySem.W.Frag} {C : Addr} {S : List Addr} {J : Hp → Prop} {a ra la : Addr} {row : List Str} {H H' : Hp} {p q : Nat} {ls : List PyData}
theorem WAt.ar (h : WAt K C J a ra la row H p ls) : ra ≠ a := by
  obtain ⟨dx, e⟩ := h.at_
  intro z
  have := h.row
  rw [z, e] at this
  cases this
theorem WAt.al (h : WAt K C J a ra la row H p ls) : la ≠ a := by
  obtain ⟨dx, e⟩ := h.at_
  obtain ⟨vs, e2, _⟩ := h.lin
  intro z
  rw [z, e] at e2
  cases e2
theorem Fx.wide {a b : Addr} (f : Fx S H H') : Fx (a :: b :: S) H H' := f.mono fun x hx => List.mem_cons_of_mem _ (List.mem_cons_of_mem _ hx)
/-- all stays but S -/
theorem WAt.keep (h : WAt K C J a ra la row H p ls) (st : WSt K S J a ra la row) (f : Fx S H H') (j : J H') : WAt K C J a ra la row H' p ls := by
  obtain ⟨dx, e⟩ := h.at_
  obtain ⟨vs, e2, d, i⟩ := h.lin
  exact ⟨⟨dx, f.keep _ _ st.na e⟩, f.keep _ _ st.nr h.row, ⟨vs, f.keep _ _ st.nl e2, dpAll_mono f.tup _ _ i d, i⟩, j⟩
theorem tex_ins {H : Hp} {p : Addr} {C dx : Addr} {fs : List (Str × V)} {o : HO} (h : H p = some (.ins C dx fs)) : TEx H (upd H p o) := fun a ys r => by
  rcases r with r | ⟨u, r⟩
  · exact .inl (by rw [upd_ne (ne_of r h (by intro z; cases z))]; exact r)
  · exact .inr ⟨u, by rw [upd_ne (ne_of r h (by intro z; cases z))]; exact r⟩
/-- the place moves -/
theorem WAt.move (h : WAt K C J a ra la row H p ls) (st : WSt K S J a ra la row) {dx : Addr} {fs : List (Str × V)} (e : H a = some (.ins C dx fs)) : WAt K C J a ra la row (upd H a (.ins C dx (wf ra q la))) q ls ∧ Fx (a :: la :: S) H (upd H a (.ins C dx (wf ra q la))) := by
  obtain ⟨vs, e2, d, i⟩ := h.lin
  refine ⟨⟨⟨dx, upd_same⟩, by rw [upd_ne h.ar]; exact h.row, ⟨vs, by rw [upd_ne h.al]; exact e2, dpAll_mono (tex_ins e) _ _ i d, i⟩, ?_⟩, ?_, tex_ins e⟩
  · refine st.stab _ _ h.j ⟨vs, e2⟩ fun b o nb no eb => ?_
    have : b ≠ a := fun z => by
      rw [z, e] at eb
      exact no _ _ _ (Option.some.inj eb).symm
    rw [upd_ne this]
    exact eb
  · intro b o nb eb
    rw [upd_ne (fun z => nb (by simp [z]))]
    exact eb
/-- a line is added -/
theorem WAt.add (h : WAt K C J a ra la row H p ls) (st : WSt K S J a ra la row) {vs : List V} {v : V} {d : PyData} (e : H la = some (.lst vs)) (dv : DpAll K H vs ls) (iv : immAll ls = true) (hd : Dp K H v d) (hi : imm d = true) :
    WAt K C J a ra la row (upd H la (.lst (vs ++ [v]))) p (ls ++ [d]) ∧ Fx (a :: la :: S) H (upd H la (.lst (vs ++ [v]))) := by
  obtain ⟨dx, ea⟩ := h.at_
  have t : TEx H (upd H la (.lst (vs ++ [v]))) := tex_lst e
  have i2 : immAll (ls ++ [d]) = true := by simp [immAll_append, iv, immAll, hi]
  refine ⟨⟨⟨dx, by rw [upd_ne h.al.symm]; exact ea⟩, by rw [upd_ne st.ne.symm]; exact h.row, ⟨_, upd_same, dpAll_append (dpAll_mono t _ _ iv dv) (.cons (dp_mono t d v hi hd) .nil), i2⟩, ?_⟩, ?_, t⟩
  · refine st.stab _ _ h.j ⟨vs, e⟩ fun b o nb no eb => ?_
    rw [upd_ne nb]
    exact eb
  · intro b o nb eb
    rw [upd_ne (fun z => nb (by simp [z]))]
    exact eb
/-- a new list of our own changes -/
theorem WAt.other {Tb : List (Addr × Str)} {s0 : Addr} {x : Addr} {xs ys : List V} {H0 : Hp} (h : WAt K C J a ra la row H p ls) (hW : drW K Tb s0 J) (j0 : J H0) (x0 : H0 x = none) (hx : H x = some (.lst xs)) (nr : x ≠ ra) (nl : x ≠ la) : WAt K C J a ra la row (upd H x (.lst ys)) p ls := by
  obtain ⟨dx, e⟩ := h.at_
  obtain ⟨vs, e2, d, i⟩ := h.lin
  have na : x ≠ a := fun z => by
    rw [z, e] at hx
    cases hx
  refine ⟨⟨dx, by rw [upd_ne na.symm]; exact e⟩, by rw [upd_ne nr.symm]; exact h.row, ⟨vs, by rw [upd_ne nl.symm]; exact e2, dpAll_mono (tex_lst hx) _ _ i d, i⟩, ?_⟩
  refine (drOk s0 J H0 hW j0).jst H _ h.j fun b o hb eb => ?_
  have nb : b ≠ x := fun z => by
    subst z
    rcases hb with hb | hb
    · exact hb x0
    · rw [hx] at eb
      exact hb _ (Option.some.inj eb).symm
  rw [upd_ne nb]
  exact eb
theorem fx_other {x : Addr} {xs ys : List V} {H0 : Hp} (f : Fx S H0 H) (x0 : H0 x = none) (hx : H x = some (.lst xs)) : Fx S H0 (upd H x (.lst ys)) := by
  refine ⟨fun b o nb eb => ?_, fun b us hb => tex_lst hx b us (f.tup b us hb)⟩
  have : b ≠ x := fun z => by rw [z, x0] at eb; cases eb
  rw [upd_ne this]
  exact f.keep b o nb eb
theorem drOut {Tb : List (Addr × Str)} {s0 : Addr} {x : Addr} (hW : drW K Tb s0 J) (j : J H) (hx : H x = none) : x ∉ s0 :: Tb.map (·.1) := fun z => (drOk s0 J H hW j).sj H j x z hx
/-- a new thing -/
theorem WAt.new {Tb : List (Addr × Str)} {s0 : Addr} {x : Addr} {o : HO} (h : WAt K C J a ra la row H p ls) (hW : drW K Tb s0 J) (st : WSt K S J a ra la row) (hx : H x = none) : WAt K C J a ra la row (upd H x o) p ls ∧ Fx (a :: la :: S) H (upd H x o) :=
  ⟨h.keep st (Fx.new hx) ((drOk s0 J H hW h.j).jst H _ h.j fun b u _ e => by rw [upd_ne (ne_of_none e hx)]; exact e), Fx.new hx⟩
/-- a place that holds nothing yet -/
theorem WAt.out {Tb : List (Addr × Str)} {s0 : Addr} {x : Addr} (h : WAt K C J a ra la row H p ls) (hW : drW K Tb s0 J) (hx : H x = none) : x ∉ s0 :: Tb.map (·.1) ∧ x ≠ ra ∧ x ≠ la ∧ x ∉ a :: la :: s0 :: Tb.map (·.1) := by
  have nxS := drOut hW h.j hx
  have nra : x ≠ ra := fun z => by rw [z, h.row] at hx; cases hx
  have nla : x ≠ la := fun z => by
    obtain ⟨vs, e, _⟩ := h.lin
    rw [z, e] at hx
    cases hx
  have nxa : x ≠ a := fun z => by
    obtain ⟨dx, e⟩ := h.at_
    rw [z, e] at hx
    cases hx
  refine ⟨nxS, nra, nla, fun z => ?_⟩
  rcases List.mem_cons.mp z with z | z
  · exact nxa z
  · rcases List.mem_cons.mp z with z | z
    · exact nla z
    · exact nxS z
theorem stab_of {Tb : List (Addr × Str)} {s0 : Addr} (hW : drW K Tb s0 J) (j : J H) (hl : H la = none) : ∀ H1 H2, J H1 → (∃ xs, H1 la = some (.lst xs)) → (∀ b o, b ≠ la → (∀ C dx fs, o ≠ .ins C dx fs) → H1 b = some o → H2 b = some o) → J H2 := by
  obtain ⟨scr, ns, rfl⟩ := hW
  rintro H1 H2 ⟨⟨h1, h2, a', p', s', h3, h4⟩, ht⟩ ⟨xs, hx⟩ k
  obtain ⟨⟨_, g2, _, _, _, _, g4⟩, _⟩ := j
  have n0 : s0 ≠ la := fun z => by rw [z, hl] at g4; cases g4
  refine ⟨⟨h1, ?_, a', p', s', h3, k _ _ n0 (fun _ _ _ z => by cases z) h4⟩, fun q hq => ?_⟩
  · rcases g2 with g2 | g2
    · have n1 : scr ≠ la := fun z => by
        rcases g2 with g2 | ⟨o, g2⟩
        · rw [z, hl] at g2; cases g2
        · rw [z, hl] at g2; cases g2
      rcases h2 with (h2 | ⟨o, h2⟩) | h2
      · exact .inl (.inl (k _ _ n1 (fun _ _ _ z => by cases z) h2))
      · exact .inl (.inr ⟨o, k _ _ n1 (fun _ _ _ z => by cases z) h2⟩)
      · exact .inr h2
    · exact .inr g2
  · obtain ⟨ps, e1, e2, e3⟩ := ht q hq
    refine ⟨ps, k _ _ (fun z => by rw [z, hx] at e1; cases e1) (fun _ _ _ z => by cases z) e1, e2, fun pos cv hc => ?_⟩
    obtain ⟨c, c1, c2⟩ := e3 pos cv hc
    exact ⟨c, c1, k _ _ (fun z => by rw [z, hx] at c2; unfold LamX.CodeO at c2; cases c2) (fun _ _ _ z => by unfold LamX.CodeO at z; cases z) c2⟩
end
def spInit (K : PySem.W.Frag) (Tb : List (Addr × Str)) (C : Addr) : Sp := fun vs H Q _ => ∃ (a dx s0 : Addr) (J : Hp → Prop) (z : Str) (row : List Str), vs = [.ref a, .str z] ∧ drW K Tb s0 J ∧ J H ∧ a ∉ s0 :: Tb.map (·.1) ∧ H a = some (.ins C dx []) ∧ Txt.split z " " = row ∧ z.length + 2 ≤ sizeLine ∧ row.length ≤ 1000000 ∧
  ∀ ra la H', WSt K (s0 :: Tb.map (·.1)) J a ra la row → WAt K C J a ra la row H' 0 [] → (∀ b o, b ≠ a → H b = some o → H' b = some o) → TEx H H' → H la = none → Q .non H'
theorem pf1 {ra : Addr} : putF "row" (.ref ra) [] = ([("row", V.ref ra)] : List (Str × V)) := by with_unfolding_all rfl
theorem pf2 {ra : Addr} : putF "position" (.int 0) ([("row", V.ref ra)] : List (Str × V)) = ([("row", V.ref ra), ("position", V.int 0)] : List (Str × V)) := by with_unfolding_all rfl
theorem pf3 {ra la : Addr} : putF "lines" (.ref la) ([("row", V.ref ra), ("position", V.int 0)] : List (Str × V)) = wf ra 0 la := by with_unfolding_all rfl
set_option maxHeartbeats 16000000 in
theorem ok_Words___init__ (T : Txt P w K mg) : FnOk P w K mg base CX0 1 T.a_Words___init__ T.fd_Words___init__ ["self", "text"] (spInit K T.Tb T.C_Words) := by
  refine T.F_Words___init__.ok sc_Words___init__ (fun vs H Q E h => ?_) (fun cdv A outer s H vs Q E hr h => ?_)
  · obtain ⟨a, dx, s0, J, z, row, rfl, _⟩ := h
    rfl
  · obtain ⟨a, dx, s0, J, z, row, rfl, hW, hJ, na, ea, hsp, hz, hrow, q⟩ := h
    refine ⟨_, pss_cons (ps_fld (pv 0) (pe_split (pv 1) pe_str) rfl) (pss_cons (ps_fld (pv 0) pe_int rfl) (pss_one (ps_fld (pv 0) (pe_lst pa_nil) rfl))), ?_⟩
    refine ⟨_, rfl, ⟨z, rfl⟩, z, " ", rfl, rfl, by decide +kernel, hz, fun ra hra => ?_⟩
    have nar : a ≠ ra := ne_of_none ea hra
    rw [hsp]
    refine ⟨_, rfl, a, T.C_Words, dx, [], rfl, by rw [upd_ne nar]; exact ea, T.cl_Words, T.na_Words_row, by show 0 < 1000; omega, ?_⟩
    rw [pf1]
    refine ⟨_, rfl, a, T.C_Words, dx, _, rfl, upd_same, T.cl_Words, T.na_Words_position, by show 1 < 1000; omega, ?_⟩
    rw [pf2]
    refine ⟨Nat.zero_le _, fun la hla => ?_⟩
    have nla : la ≠ a := fun e => by
      rw [e, upd_same] at hla
      cases hla
    rw [upd_ne nla, upd_ne nla] at hla
    have nlr : la ≠ ra := fun e => by
      rw [e, upd_same] at hla
      cases hla
    rw [upd_ne nlr] at hla
    refine ⟨_, rfl, a, T.C_Words, dx, _, rfl, by rw [upd_ne nla.symm]; exact upd_same, T.cl_Words, T.na_Words_lines, by show 2 < 1000; omega, ?_⟩
    rw [pf3]
    have kp : ∀ b o, b ≠ a → H b = some o → (upd (upd (upd (upd (upd H ra (.lst (row.map V.str))) a (.ins T.C_Words dx [("row", .ref ra)])) a (.ins T.C_Words dx [("row", .ref ra), ("position", .int 0)])) la (.lst [])) a (.ins T.C_Words dx (wf ra 0 la))) b = some o := fun b o nb e => by
      rw [upd_ne nb, upd_ne (ne_of_none e hla), upd_ne nb, upd_ne nb, upd_ne (ne_of_none e hra)]
      exact e
    have tx : TEx H (upd (upd (upd (upd (upd H ra (.lst (row.map V.str))) a (.ins T.C_Words dx [("row", .ref ra)])) a (.ins T.C_Words dx [("row", .ref ra), ("position", .int 0)])) la (.lst [])) a (.ins T.C_Words dx (wf ra 0 la))) := fun b us r => by
      have nb : b ≠ a := fun e => by
        subst e
        rcases r with r | ⟨o, r⟩
        · rw [ea] at r; cases r
        · rw [ea] at r; cases r
      rcases r with r | ⟨o, r⟩
      · exact .inl (kp b _ nb r)
      · exact .inr ⟨o, kp b _ nb r⟩
    refine q ra la _ ⟨na, drOut hW hJ hra, drOut hW hJ hla, nlr, hrow, stab_of hW hJ hla⟩ ⟨⟨dx, upd_same⟩, ?_, ⟨[], ?_, .nil, rfl⟩, ?_⟩ kp tx hla
    · rw [upd_ne nar.symm, upd_ne nlr.symm, upd_ne nar.symm, upd_ne nar.symm, upd_same]
    · rw [upd_ne nla, upd_same]
    · refine stab_of hW hJ hla (upd H la (.lst [])) _ ((drOk s0 J H hW hJ).jst H _ hJ fun b o _ e => by rw [upd_ne (ne_of_none e hla)]; exact e) ⟨[], upd_same⟩ fun b o nl no e => ?_
      rw [upd_ne nl] at e
      exact kp b o (fun z => by rw [z, ea] at e; exact no _ _ _ (Option.some.inj e).symm) e
/-! ### Words.word -/
def spWord (K : PySem.W.Frag) (C : Addr) : Sp := fun vs H Q _ => ∃ (a ra la : Addr) (S : List Addr) (J : Hp → Prop) (row : List Str) (p : Nat) (ls : List PyData), vs = [.ref a] ∧ WSt K S J a ra la row ∧ WAt K C J a ra la row H p ls ∧ ∀ H', WAt K C J a ra la row H' (p + 1) ls → Fx (a :: la :: S) H H' → Q (.str (row[p]?.getD "")) H'
set_option maxHeartbeats 8000000 in
theorem ok_Words_word (T : Txt P w K mg) : FnOk P w K mg base CX0 1 T.a_Words_word T.fd_Words_word ["self"] (spWord K T.C_Words) := by
  refine T.F_Words_word.ok sc_Words_word (fun vs H Q E h => ?_) (fun cdv A outer s H vs Q E hr h => ?_)
  · obtain ⟨a, ra, la, S, J, row, p, ls, rfl, _⟩ := h
    rfl
  · obtain ⟨a, ra, la, S, J, row, p, ls, rfl, st, wa, q⟩ := h
    obtain ⟨dx, ea⟩ := wa.at_
    refine ⟨_, pss_cons (ps_fldaug (pv 0) pe_int in_add) (pss_one (ps_ret (pe_ifExp (pt_cmpR op_le (pe_fld (pv 0) rfl) (pe_callB call_len_seq (by rfl) T.z_len bo_len (pa_cons (pe_fld (pv 0) rfl) pa_nil)) (nomark _)) (pe_ix ix_list (pe_fld (pv 0) rfl) (pe_op op_sub (pe_fld (pv 0) rfl) pe_int) (fun _ _ => rfl)) pe_str))), ?_⟩
    refine ⟨_, rfl, a, _, dx, _, _, rfl, ea, T.cl_Words, T.na_Words_position, wf_pos, p, 1, rfl, rfl, dx, _, ea, by simp [wf], ?_⟩
    rw [wf_put (by omega)]
    have e1 : ((p : Int) + 1).toNat = p + 1 := by omega
    rw [e1]
    obtain ⟨w1, f1⟩ := wa.move (q := p + 1) st ea
    generalize upd H a (.ins T.C_Words dx (wf ra (p + 1) la)) = H1 at *
    obtain ⟨dx1, ea1⟩ := w1.at_
    refine ⟨_, rfl, a, _, dx1, _, _, rfl, ea1, T.cl_Words, T.na_Words_position, wf_pos, _, rfl, a, _, dx1, _, _, rfl, ea1, T.cl_Words, T.na_Words_row, wf_row, ra, _, rfl, .inl (SqL.of w1.row), _, _, rfl, rfl, _, rfl, ?_⟩
    refine ite2 (fun c => ?_) (fun c => ?_)
    · have c' := of_decide_eq_true c
      rw [List.length_map] at c'
      have hp : p < row.length := by omega
      refine ⟨_, rfl, a, _, dx1, _, _, rfl, ea1, T.cl_Words, T.na_Words_row, wf_row, _, rfl, a, _, dx1, _, _, rfl, ea1, T.cl_Words, T.na_Words_position, wf_pos, _, _, rfl, rfl, ra, _, _, .str (row[p]?.getD ""), rfl, rfl, SqL.of w1.row, ?_, q _ w1 f1⟩
      rw [Ab.atI_pos (by omega) (by rw [List.length_map]; omega), List.getElem?_map, show (((p + 1 : Nat) : Int) - 1).toNat = p by omega, List.getElem?_eq_getElem hp]
      rfl
    · have c' : ¬ ((p + 1 : Nat) : Int) ≤ (((row.map V.str).length : Nat) : Int) := fun z => c (decide_eq_true z)
      rw [List.length_map] at c'
      have := q _ w1 f1
      rw [List.getElem?_eq_none (by omega)] at this
      exact this
/-! ### number_of -/
/-! #### numdef -/
/-! what number_of finds -/
def digsOf (z : Str) : Str := if cutS z none (some 1) = "-" then cutS z (some 1) none else z
def tenL : List Nat := ("0123456789" : Str).cps.toList
def goodW (d : Str) : Bool := decide (1 ≤ d.length) && decide (d.length ≤ 2) && d.cps.toList.all fun k => decide (k ∈ tenL)
def leadW (z d : Str) : Bool := (match d.cps.toList with | k :: _ => decide ((⟨#[k]⟩ : Str) = "0") | [] => false) && !decide (z = "0")
/-- what must be known of a word -/
def knownW (z : Str) : Bool := decide (z.length ≤ 600) && PyData.strOk z && PyData.strOk (cutS z none (some 1)) && (digsOf z).cps.toList.all (fun k => PyData.strOk ⟨#[k]⟩) && (!goodW (digsOf z) || leadW z (digsOf z) || (PySem.intText? z).isSome)
def numOf (z : Str) (lo hi : Int) : Option Int := if goodW (digsOf z) && !leadW z (digsOf z) then (match PySem.intText? z with | some n => if lo ≤ n ∧ n ≤ hi then some n else none | none => none) else none
def a_number_of : Addr → Asp := fun st rs P => ∃ (z : Str) (lo hi : Int), rs = [.dat (.str z), .dat (.int lo), .dat (.int hi)] ∧ knownW z = true ∧ P (.dat (optD (numOf z lo hi)))
set_option maxHeartbeats 8000000 in
theorem ok_number_of (T : Txt P w K mg) (tb_number_of : LamX.TabB base mg T.c_number_of T.t_number_of) : FnOk P w K mg base CX0 2 T.a_number_of T.fd_number_of ["word", "low", "high"] (dSp K (T.Tb.map (·.1)) (drW K T.Tb) a_number_of) := by
  refine def_tab (N := n_number_of) (k := 1) T.F_number_of sc_number_of (by intro st rs R h; unfold a_number_of at h; repeat (first | (obtain ⟨rfl, _⟩ := h; rfl) | (obtain ⟨_, h⟩ := h))) drOk (fun A outer s H E st J hW hJ hr => ⟨_, (ss_cons (st_set 3 sc_number_of.nd (ae_if (at_cmp (oa_eq hr.units) (ae_slice (ae_var 0) ao_none (ao_some ae_int)) ae_str) (ae_slice (ae_var 0) (ao_some ae_int) ao_none) (ae_var 0)))
    (ss_cons (st_if (PWa.t (aw_or (at_not (at_chain oa_le oa_le ae_int (ae_blt ka_len (by rfl) T.z_len bo_len (aa_cons (ae_var 3) aa_nil)) ae_int)) (aw_or1 (at_not (at_tru (ae_all (own := [("one", 5)]) (No := n_number_of) (sc := defScope s_number_of) hr (by rfl) T.z_all bo_all tb_number_of rfl (dr_tab hW T.mem_number_of) (dr_tab2 hW T.mem_number_of T.only_number_of) T.in_number_of rfl rfl (gscope_by (by decide +kernel)) (ai_str (ae_var 3)) (fun _ _ _ _ _ => (ag_name 5 sc_number_of.nd)) (fun _ _ _ _ _ => (ae_cmp oa_inS (ae_var 5) ae_str))))))))
      (ss_one (st_ret ae_non))
      ss_nil)
    (ss_cons (st_if (PWa.t (aw_and (at_cmp (oa_eq hr.units) (ae_ix (ae_var 3) ae_int) ae_str) (aw_and1 (at_cmp (oa_ne hr.units) (ae_var 0) ae_str))))
      (ss_one (st_ret ae_non))
      ss_nil)
    (ss_cons (st_set 4 sc_number_of.nd (ae_ty ka_intS (by rfl) T.z_int bo_int (aa_cons (ae_var 0) aa_nil)))
    (ss_one (st_ret (ae_if (at_chain oa_le oa_le (ae_var 1) (ae_var 4) (ae_var 2)) (ae_var 4) ae_non))))))), fun rs R h => ?_⟩)
  obtain ⟨z, lo, hi, rfl, hz, q⟩ := h
  simp only [knownW, Bool.and_eq_true, decide_eq_true_eq] at hz
  obtain ⟨⟨⟨⟨k1, k2⟩, k3⟩, k4⟩, k5⟩ := hz
  walk_at "ab"
  refine ⟨size_le (by omega), k3, by decide +kernel, ?_⟩
  by_cases hm : cutS z none (some 1) = "-"
  · rw [if_pos (by simp [hm])]
    have eD : digsOf z = cutS z (some 1) none := by unfold digsOf; rw [if_pos hm]
    rw [eD] at k4 k5
    have lD : (cutS z (some 1) none).length ≤ z.length := cutS_length z _ _
    generalize cutS z (some 1) none = D at *
    refine ⟨size_le (by omega), size_le (by omega), ?_⟩
    have INT : goodW D = true → leadW z D = false → ∃ n, PySem.intText? z = some n ∧ z.length ≤ 640 ∧ if decide (lo ≤ n) = true then (if decide (n ≤ hi) = true then R (.dat (.int n)) else R (.dat .none)) else R (.dat .none) := fun hg hl => by
      have q' := q
      unfold numOf at q'
      rw [eD, hg, hl] at q'
      rw [hg, hl] at k5
      obtain ⟨n, hn⟩ := Option.isSome_iff_exists.mp (show (PySem.intText? z).isSome = true by simpa using k5)
      refine ⟨n, hn, by omega, ?_⟩
      rw [hn] at q'
      by_cases a1 : lo ≤ n <;> by_cases a2 : n ≤ hi <;> simp [a1, a2, optD] at q' ⊢ <;> exact q'
    have NO : (goodW D && !leadW z D) = false → R (.dat .none) := fun h => by
      have q' := q
      unfold numOf at q'
      rw [eD, h] at q'
      exact q'
    by_cases h1 : 1 ≤ D.length
    · rw [if_pos (by simp; omega)]
      by_cases h2 : D.length ≤ 2
      · rw [if_neg (by simp; omega)]
        refine ⟨fun e => match e with | .str s => s.cps.toList.all fun k => decide (k ∈ tenL) | _ => false, fun i a _ _ => ⟨a, rfl, by simp [tenL]⟩, ?_⟩
        have ea : ((signD D).all fun e => match e with | .str s => s.cps.toList.all fun k => decide (k ∈ tenL) | _ => false) = D.cps.toList.all fun k => decide (k ∈ tenL) := by
          unfold signD
          rw [List.all_map]
          congr 1
          funext k
          simp
        rw [ea]
        have eg : goodW D = D.cps.toList.all fun k => decide (k ∈ tenL) := by
          unfold goodW
          rw [decide_eq_true h1, decide_eq_true h2]
          simp
        cases hg : (D.cps.toList.all fun k => decide (k ∈ tenL)) with
        | false =>
          rw [if_pos (by simp)]
          exact NO (by rw [eg, hg]; rfl)
        | true =>
          rw [if_neg (by simp)]
          rw [hg] at eg
          obtain ⟨k, r, hl⟩ : ∃ k r, D.cps.toList = k :: r := by
            cases hc : D.cps.toList with
            | nil =>
              exfalso
              have : D.length = D.cps.toList.length := by simp [Str.length]
              rw [hc] at this
              simp at this
              omega
            | cons k r => exact ⟨k, r, rfl⟩
          have kk : PyData.strOk ⟨#[k]⟩ = true := by
            rw [hl, List.all_cons, Bool.and_eq_true] at k4
            exact k4.1
          refine ⟨size_le (by omega), k, by rw [hl]; exact at_0, kk, by decide +kernel, ?_⟩
          by_cases b1 : (⟨#[k]⟩ : Str) = "0"
          · rw [if_pos (by simp [b1])]
            refine ⟨k2, by decide +kernel, ?_⟩
            by_cases b2 : z = "0"
            · rw [if_neg (by simp [b2])]
              have lf : leadW z D = false := by unfold leadW; rw [decide_eq_true b2]; simp
              obtain ⟨n, e1, e2, e3⟩ := INT eg lf
              exact ⟨z, rfl, n, e1, e2, e3⟩
            · rw [if_pos (by simp [b2])]
              refine NO ?_
              have lt : leadW z D = true := by unfold leadW; rw [hl]; simp [b1, b2]
              rw [lt, Bool.not_true, Bool.and_false]
          · rw [if_neg (by simp [b1])]
            have lf : leadW z D = false := by unfold leadW; rw [hl]; simp [b1]
            obtain ⟨n, e1, e2, e3⟩ := INT eg lf
            exact ⟨z, rfl, n, e1, e2, e3⟩
      · rw [if_pos (by simp; omega)]
        exact NO (by unfold goodW; rw [decide_eq_false h2]; simp)
    · rw [if_neg (by simp; omega), if_pos (by simp)]
      exact NO (by unfold goodW; rw [decide_eq_false h1]; simp)
  · rw [if_neg (by simp [hm])]
    have eD : digsOf z = z := by unfold digsOf; rw [if_neg hm]
    rw [eD] at k4 k5
    refine ⟨size_le (by omega), ?_⟩
    have INT : goodW z = true → leadW z z = false → ∃ n, PySem.intText? z = some n ∧ z.length ≤ 640 ∧ if decide (lo ≤ n) = true then (if decide (n ≤ hi) = true then R (.dat (.int n)) else R (.dat .none)) else R (.dat .none) := fun hg hl => by
      have q' := q
      unfold numOf at q'
      rw [eD, hg, hl] at q'
      rw [hg, hl] at k5
      obtain ⟨n, hn⟩ := Option.isSome_iff_exists.mp (show (PySem.intText? z).isSome = true by simpa using k5)
      refine ⟨n, hn, by omega, ?_⟩
      rw [hn] at q'
      by_cases a1 : lo ≤ n <;> by_cases a2 : n ≤ hi <;> simp [a1, a2, optD] at q' ⊢ <;> exact q'
    have NO : (goodW z && !leadW z z) = false → R (.dat .none) := fun h => by
      have q' := q
      unfold numOf at q'
      rw [eD, h] at q'
      exact q'
    by_cases h1 : 1 ≤ z.length
    · rw [if_pos (by simp; omega)]
      by_cases h2 : z.length ≤ 2
      · rw [if_neg (by simp; omega)]
        refine ⟨fun e => match e with | .str s => s.cps.toList.all fun k => decide (k ∈ tenL) | _ => false, fun i a _ _ => ⟨a, rfl, by simp [tenL]⟩, ?_⟩
        have ea : ((signD z).all fun e => match e with | .str s => s.cps.toList.all fun k => decide (k ∈ tenL) | _ => false) = z.cps.toList.all fun k => decide (k ∈ tenL) := by
          unfold signD
          rw [List.all_map]
          congr 1
          funext k
          simp
        rw [ea]
        have eg : goodW z = z.cps.toList.all fun k => decide (k ∈ tenL) := by
          unfold goodW
          rw [decide_eq_true h1, decide_eq_true h2]
          simp
        cases hg : (z.cps.toList.all fun k => decide (k ∈ tenL)) with
        | false =>
          rw [if_pos (by simp)]
          exact NO (by rw [eg, hg]; rfl)
        | true =>
          rw [if_neg (by simp)]
          rw [hg] at eg
          obtain ⟨k, r, hl⟩ : ∃ k r, z.cps.toList = k :: r := by
            cases hc : z.cps.toList with
            | nil =>
              exfalso
              have : z.length = z.cps.toList.length := by simp [Str.length]
              rw [hc] at this
              simp at this
              omega
            | cons k r => exact ⟨k, r, rfl⟩
          have kk : PyData.strOk ⟨#[k]⟩ = true := by
            rw [hl, List.all_cons, Bool.and_eq_true] at k4
            exact k4.1
          refine ⟨size_le (by omega), k, by rw [hl]; exact at_0, kk, by decide +kernel, ?_⟩
          by_cases b1 : (⟨#[k]⟩ : Str) = "0"
          · rw [if_pos (by simp [b1])]
            refine ⟨k2, by decide +kernel, ?_⟩
            by_cases b2 : z = "0"
            · rw [if_neg (by simp [b2])]
              have lf : leadW z z = false := by unfold leadW; rw [decide_eq_true b2]; simp
              obtain ⟨n, e1, e2, e3⟩ := INT eg lf
              exact ⟨z, rfl, n, e1, e2, e3⟩
            · rw [if_pos (by simp [b2])]
              refine NO ?_
              have lt : leadW z z = true := by unfold leadW; rw [hl]; simp [b1, b2]
              rw [lt, Bool.not_true, Bool.and_false]
          · rw [if_neg (by simp [b1])]
            have lf : leadW z z = false := by unfold leadW; rw [hl]; simp [b1]
            obtain ⟨n, e1, e2, e3⟩ := INT eg lf
            exact ⟨z, rfl, n, e1, e2, e3⟩
      · rw [if_pos (by simp; omega)]
        exact NO (by unfold goodW; rw [decide_eq_false h2]; simp)
    · rw [if_neg (by simp; omega), if_pos (by simp)]
      exact NO (by unfold goodW; rw [decide_eq_false h1]; simp)
/-! ### Words.number -/
/-! #### prs -/
/-! what the reading of words comes to, by places in the row -/
inductive Res where
  | ok (p m : Nat)
  | bad (p : Nat)
deriving DecidableEq
def wAt (row : List Str) (p : Nat) : Str := row[p]?.getD ""
def facR (row : List Str) : Nat → Nat → Res
  | 0, p => if wAt row p = ";" then .ok (p + 1) 0 else .bad p
  | m + 1, p => if wAt row p = ";" then .ok (p + 1) 0 else match numOf (wAt row p) (-9) 9 with
    | none => .bad p
    | some _ => facR row m (p + 1)
def belR (row : List Str) (p : Nat) : Res := match facR row 6 p with
  | .bad q => .bad q
  | .ok q _ => match numOf (wAt row q) (-99) 99 with
    | none => .bad q
    | some _ => .ok (q + 1) 1
def resR (row : List Str) (p : Nat) : Res := match facR row 6 p with
  | .bad q => .bad q
  | .ok q _ => match numOf (wAt row q) 1 12 with
    | none => .bad q
    | some d => match numOf (wAt row (q + 1)) 0 (d - 1) with
      | none => .bad (q + 1)
      | some _ => .ok (q + 2) 1
def manyR (g : Nat → Option Res) : Nat → Nat → Option Res
  | 0, p => some (.ok p 0)
  | k + 1, p => match g p with
    | none => none
    | some (.bad q) => some (.bad q)
    | some (.ok q m) => match manyR g k q with
      | none => none
      | some (.bad q') => some (.bad q')
      | some (.ok q' m') => some (.ok q' (m + m'))
def upR : Option Res → Option Res
  | some (.ok q m) => some (.ok q (m + 1))
  | r => r
def oddN : List Str := ["", "x", "Below", ":", "belo", ";;", "10", "1.5", "--1", "\tbelow"]
def lineR (row : List Str) : Nat → Nat → Option Res
  | 0, _ => none
  | f + 1, p =>
    if wAt row p = "below" then some (belR row (p + 1))
    else if wAt row p = "rest" then some (resR row (p + 1))
    else if wAt row p = "not" then upR (manyR (lineR row f) 1 (p + 1))
    else if wAt row p = "both" then upR (manyR (lineR row f) 2 (p + 1))
    else if wAt row p = "there" then upR (manyR (lineR row f) 1 (p + 1))
    else if wAt row p ∈ oddN then some (.bad p) else none
theorem wAt_lt {row : List Str} {p : Nat} (h : wAt row p ≠ "") : p < row.length := by
  by_cases z : p < row.length
  · exact z
  · exact absurd (by unfold wAt; rw [List.getElem?_eq_none (by omega)]; rfl) h
theorem numOf_blank {lo hi : Int} : numOf "" lo hi = none := by
  unfold numOf
  rw [if_neg (by decide +kernel)]
def Res.p : Res → Nat
  | .ok q _ => q
  | .bad q => q
theorem facR_le {row : List Str} : ∀ {m p : Nat}, p ≤ row.length → (facR row m p).p ≤ row.length
  | 0, p, hp => by
    unfold facR
    by_cases h : wAt row p = ";"
    · have := wAt_lt (row := row) (p := p) (by rw [h]; decide)
      rw [if_pos h]
      show p + 1 ≤ _
      omega
    · rw [if_neg h]
      exact hp
  | m + 1, p, hp => by
    unfold facR
    by_cases h : wAt row p = ";"
    · have := wAt_lt (row := row) (p := p) (by rw [h]; decide)
      rw [if_pos h]
      show p + 1 ≤ _
      omega
    · rw [if_neg h]
      cases hn : numOf (wAt row p) (-9) 9 with
      | none => exact hp
      | some n =>
        have := wAt_lt (row := row) (p := p) (fun z => by rw [z, numOf_blank] at hn; cases hn)
        exact facR_le (row := row) (m := m) (p := p + 1) (by omega)
theorem belR_le {row : List Str} {p : Nat} (hp : p ≤ row.length) : (belR row p).p ≤ row.length := by
  have h := facR_le (row := row) (m := 6) hp
  unfold belR
  cases e : facR row 6 p with
  | bad q0 => rw [e] at h; exact h
  | ok q0 c0 =>
    rw [e] at h
    have h : q0 ≤ row.length := h
    dsimp only
    cases hn : numOf (wAt row q0) (-99) 99 with
    | none => exact h
    | some n => exact wAt_lt (row := row) (p := q0) (fun z => by rw [z, numOf_blank] at hn; cases hn)
theorem resR_le {row : List Str} {p : Nat} (hp : p ≤ row.length) : (resR row p).p ≤ row.length := by
  have h := facR_le (row := row) (m := 6) hp
  unfold resR
  cases e : facR row 6 p with
  | bad q0 => rw [e] at h; exact h
  | ok q0 c0 =>
    rw [e] at h
    have h : q0 ≤ row.length := h
    dsimp only
    cases hn : numOf (wAt row q0) 1 12 with
    | none => exact h
    | some n =>
      have := wAt_lt (row := row) (p := q0) (fun z => by rw [z, numOf_blank] at hn; cases hn)
      dsimp only
      cases hn2 : numOf (wAt row (q0 + 1)) 0 (n - 1) with
      | none => exact this
      | some k => exact wAt_lt (row := row) (p := q0 + 1) (fun z => by rw [z, numOf_blank] at hn2; cases hn2)
theorem manyR_le {row : List Str} {g : Nat → Option Res} (hg : ∀ p r, p ≤ row.length → g p = some r → r.p ≤ row.length) :
    ∀ (k : Nat) {p : Nat} {r : Res}, p ≤ row.length → manyR g k p = some r → r.p ≤ row.length
  | 0, p, r, hp, e => by
    cases e
    exact hp
  | k + 1, p, r, hp, e => by
    unfold manyR at e
    cases h : g p with
    | none => rw [h] at e; cases e
    | some r0 =>
      rw [h] at e
      have h0 := hg p r0 hp h
      cases r0 with
      | bad q => cases e; exact h0
      | ok q m =>
        dsimp only at e
        cases h2 : manyR g k q with
        | none => rw [h2] at e; cases e
        | some r2 =>
          rw [h2] at e
          have ih := manyR_le hg k h0 h2
          cases r2 with
          | bad q' => cases e; exact ih
          | ok q' m' => cases e; exact ih
theorem upR_le {row : List Str} {o : Option Res} (h : ∀ r, o = some r → r.p ≤ row.length) {r : Res} (e : upR o = some r) : r.p ≤ row.length := by
  match o, e, h with
  | some (.ok q m), e, h => cases e; exact h (.ok q m) rfl
  | some (.bad q), e, h => cases e; exact h _ rfl
  | none, e, h => cases e
theorem lineR_le {row : List Str} : ∀ {f p : Nat} {r : Res}, p ≤ row.length → lineR row f p = some r → r.p ≤ row.length
  | 0, p, r, hp, e => by cases e
  | f + 1, p, r, hp, e => by
    unfold lineR at e
    have lt : wAt row p ≠ "" → p + 1 ≤ row.length := fun h => wAt_lt h
    have IH : ∀ (k : Nat) {p : Nat} {r : Res}, p ≤ row.length → manyR (lineR row f) k p = some r → r.p ≤ row.length := manyR_le (row := row) (g := lineR row f) fun p r hp e => lineR_le hp e
    by_cases h1 : wAt row p = "below"
    · rw [if_pos h1] at e
      cases e
      exact belR_le (lt (by rw [h1]; decide))
    rw [if_neg h1] at e
    by_cases h2 : wAt row p = "rest"
    · rw [if_pos h2] at e
      cases e
      exact resR_le (lt (by rw [h2]; decide))
    rw [if_neg h2] at e
    by_cases h3 : wAt row p = "not"
    · rw [if_pos h3] at e
      exact upR_le (fun r e => IH 1 (lt (by rw [h3]; decide)) e) e
    rw [if_neg h3] at e
    by_cases h4 : wAt row p = "both"
    · rw [if_pos h4] at e
      exact upR_le (fun r e => IH 2 (lt (by rw [h4]; decide)) e) e
    rw [if_neg h4] at e
    by_cases h5 : wAt row p = "there"
    · rw [if_pos h5] at e
      exact upR_le (fun r e => IH 1 (lt (by rw [h5]; decide)) e) e
    rw [if_neg h5] at e
    by_cases h6 : wAt row p ∈ oddN
    · rw [if_pos h6] at e
      cases e
      exact hp
    · rw [if_neg h6] at e
      cases e
theorem small_log {i : Int} (h0 : 0 ≤ i) (h1 : i ≤ 1000000) : i.natAbs.log2 < 1920 := by
  by_cases z : i.natAbs = 0
  · rw [z]; decide
  · exact (Nat.log2_lt z).mpr (Nat.lt_of_le_of_lt (show i.natAbs ≤ 1000000 by omega) (Nat.lt_of_lt_of_le (show 1000000 < 2 ^ 20 by decide) (Nat.pow_le_pow_right (by decide) (by decide))))
/-! counts -/
def addR (m : Nat) : Option Res → Option Res
  | some (.ok q c) => some (.ok q (m + c))
  | r => r
theorem addR_add {m n : Nat} {r : Option Res} : addR m (addR n r) = addR (m + n) r := by
  match r with
  | none => rfl
  | some (.bad q) => rfl
  | some (.ok q c) => simp [addR]; omega
theorem addR_zero {r : Option Res} : addR 0 r = r := by
  match r with
  | none => rfl
  | some (.bad q) => rfl
  | some (.ok q c) => simp [addR]
theorem manyR_ok {g : Nat → Option Res} {k p q m : Nat} (h : g p = some (.ok q m)) : manyR g (k + 1) p = addR m (manyR g k q) := by
  rw [manyR, h]
  dsimp only
  match manyR g k q with
  | none => rfl
  | some (.bad q) => rfl
  | some (.ok q c) => rfl
theorem manyR_bad {g : Nat → Option Res} {k p q : Nat} (h : g p = some (.bad q)) : manyR g (k + 1) p = some (.bad q) := by
  rw [manyR, h]
theorem manyR_none {g : Nat → Option Res} {k p : Nat} (h : g p = none) : manyR g (k + 1) p = none := by
  rw [manyR, h]
theorem facR_cnt {row : List Str} : ∀ {m p q c : Nat}, facR row m p = .ok q c → p < q
  | 0, p, q, c, e => by
    unfold facR at e
    by_cases h : wAt row p = ";"
    · rw [if_pos h] at e
      cases e
      omega
    · rw [if_neg h] at e
      cases e
  | m + 1, p, q, c, e => by
    unfold facR at e
    by_cases h : wAt row p = ";"
    · rw [if_pos h] at e
      cases e
      omega
    · rw [if_neg h] at e
      cases hn : numOf (wAt row p) (-9) 9 with
      | none => rw [hn] at e; cases e
      | some n =>
        rw [hn] at e
        have := facR_cnt (m := m) (p := p + 1) e
        omega
def Res.fit (p : Nat) : Res → Prop
  | .ok q m => p + m ≤ q
  | .bad _ => True
theorem belR_fit {row : List Str} {p : Nat} : (belR row (p + 1)).fit p := by
  unfold belR
  cases e : facR row 6 (p + 1) with
  | bad q0 => trivial
  | ok q0 c0 =>
    have := facR_cnt e
    dsimp only
    cases numOf (wAt row q0) (-99) 99 with
    | none => trivial
    | some n => show p + 1 ≤ q0 + 1; omega
theorem resR_fit {row : List Str} {p : Nat} : (resR row (p + 1)).fit p := by
  unfold resR
  cases e : facR row 6 (p + 1) with
  | bad q0 => trivial
  | ok q0 c0 =>
    have := facR_cnt e
    dsimp only
    cases numOf (wAt row q0) 1 12 with
    | none => trivial
    | some n =>
      dsimp only
      cases numOf (wAt row (q0 + 1)) 0 (n - 1) with
      | none => trivial
      | some k => show p + 1 ≤ q0 + 2; omega
theorem manyR_fit {g : Nat → Option Res} (hg : ∀ p r, g p = some r → r.fit p) : ∀ (k : Nat) {p : Nat} {r : Res}, manyR g k p = some r → r.fit p
  | 0, p, r, e => by cases e; exact Nat.le_refl _
  | k + 1, p, r, e => by
    cases h : g p with
    | none => rw [manyR_none h] at e; cases e
    | some r0 =>
      cases r0 with
      | bad q => rw [manyR_bad h] at e; cases e; trivial
      | ok q m =>
        rw [manyR_ok h] at e
        have h0 : p + m ≤ q := hg p _ h
        cases h2 : manyR g k q with
        | none => rw [h2] at e; cases e
        | some r2 =>
          rw [h2] at e
          have ih := manyR_fit hg k h2
          cases r2 with
          | bad q' => cases e; trivial
          | ok q' m' =>
            cases e
            have ih : q + m' ≤ q' := ih
            show p + (m + m') ≤ q'
            omega
theorem upR_fit {o : Option Res} {p : Nat} (h : ∀ r, o = some r → r.fit (p + 1)) {r : Res} (e : upR o = some r) : r.fit p := by
  match o, e, h with
  | some (.ok q m), e, h =>
    cases e
    have h1 : p + 1 + m ≤ q := h (.ok q m) rfl
    show p + (m + 1) ≤ q
    omega
  | some (.bad q), e, h => cases e; trivial
  | none, e, h => cases e
theorem lineR_fit {row : List Str} : ∀ {f p : Nat} {r : Res}, lineR row f p = some r → r.fit p
  | 0, p, r, e => by cases e
  | f + 1, p, r, e => by
    unfold lineR at e
    have IH : ∀ (k : Nat) {p : Nat} {r : Res}, manyR (lineR row f) k p = some r → r.fit p := manyR_fit (g := lineR row f) fun p r e => lineR_fit e
    split at e
    · cases e; exact belR_fit
    split at e
    · cases e; exact resR_fit
    split at e
    · exact upR_fit (fun r e => IH 1 e) e
    split at e
    · exact upR_fit (fun r e => IH 2 e) e
    split at e
    · exact upR_fit (fun r e => IH 1 e) e
    split at e
    · cases e; trivial
    · cases e
def spNumber (K : PySem.W.Frag) (Tb : List (Addr × Str)) (C I : Addr) : Sp := fun vs H Q E => ∃ (a ra la s0 : Addr) (J : Hp → Prop) (row : List Str) (p : Nat) (ls : List PyData) (lo hi : Int), vs = [.ref a, .int lo, .int hi] ∧ drW K Tb s0 J ∧ WSt K (s0 :: Tb.map (·.1)) J a ra la row ∧ WAt K C J a ra la row H p ls ∧
  knownW (wAt row p) = true ∧ p ≤ row.length ∧ (∀ n, numOf (wAt row p) lo hi = some n → ∀ H', WAt K C J a ra la row H' (p + 1) ls → Fx (a :: la :: s0 :: Tb.map (·.1)) H H' → Q (.int n) H') ∧ (numOf (wAt row p) lo hi = none → BadE I J (a :: la :: s0 :: Tb.map (·.1)) H p E)
set_option maxHeartbeats 8000000 in
theorem ok_Words_number (T : Txt P w K mg) (tb_number_of : LamX.TabB base mg T.c_number_of T.t_number_of) : FnOk P w K mg base (L2.CX P w) 3 T.a_Words_number T.fd_Words_number ["self", "low", "high"] (spNumber K T.Tb T.C_Words T.er.I) := by
  have nd := sc_Words_number.nd
  refine T.F_Words_number.okX sc_Words_number (fun vs H Q E h => ?_) (fun cdv A outer s H vs Q E hr h => ?_)
  · obtain ⟨a, ra, la, s0, J, row, p, ls, lo, hi, rfl, _⟩ := h
    rfl
  · obtain ⟨a, ra, la, s0, J, row, p, ls, lo, hi, rfl, hW, st, wa, kn, hp, qs, qn⟩ := h
    obtain ⟨dx, ea⟩ := wa.at_
    refine ⟨_, pss_cons (ps_set (i := 3) nd rfl (.inl rfl) (pe_call (ok_number_of T tb_number_of) (hr.mono (by decide)) (by rfl) T.m_number_of T.F_number_of.kp T.b_number_of .nil pass0 (pa_cons (pe_meth0 (pv 0) T.cl_Words T.me_Words_word (ok_Words_word T) (hr.mono (by decide)) T.b_Words_word .nil pass0) (pa_cons (pv 1) (pa_cons (pv 2) pa_nil)))))
      (pss_cons (ps_if (pt_cmpR op_isN (pv 3) pe_non (nomark _)) (pss_one (ps_raise rfl (takes_of rfl rfl rfl rfl) (pmk_inv (k := 0) T.er.sup T.er.gI T.er.gsu (hr.mono (by decide)) (pa_cons (pe_op op_sub (pe_fld (pv 0) rfl) pe_int) pa_nil)))) pss_nil) (pss_one (ps_ret (pv 3)))), ?_⟩
    refine ⟨_, rfl, a, dx, _, rfl, ea, wf_no, a, ra, la, _, J, row, p, ls, rfl, st, wa, fun H1 w1 f1 => ?_⟩
    refine ⟨_, rfl, _, rfl, s0, J, [.dat (.str (wAt row p)), .dat (.int lo), .dat (.int hi)], fun r => r = .dat (optD (numOf (wAt row p) lo hi)), hW, w1.j, .cons ⟨.str _, rfl⟩ (.cons ⟨.int _, rfl⟩ (.cons ⟨.int _, rfl⟩ .nil)), ⟨_, lo, hi, rfl, kn, rfl⟩, fun v H2 r f2 j2 rr2 _ er => ?_⟩
    subst er
    have w2 := w1.keep st f2 j2
    have f3 := f1.trans (Lw.Fx.wide f2)
    cases hn : numOf (wAt row p) lo hi with
    | none =>
      rw [hn] at rr2
      cases rr2.ro.non
      refine ⟨_, rfl, rfl, _, rfl, ?_⟩
      refine ite2 (fun _ => ?_) (fun c => by simp at c)
      obtain ⟨dx2, ea2⟩ := w2.at_
      have hz := st.hz
      refine ⟨_, rfl, a, _, dx2, _, _, rfl, ea2, T.cl_Words, T.na_Words_position, wf_pos, _, 1, rfl, rfl, _, rfl, small_log (by omega) (by omega), fun d hd => ?_⟩
      obtain ⟨w4, f4⟩ := w2.new (o := .xd [(("number" : Str), .int (((p + 1 : Nat) : Int) - 1))]) hW st hd
      refine qn hn d _ w4.j (f3.trans f4) ?_
      have e1 : ((p + 1 : Nat) : Int) - 1 = (p : Int) := by omega
      rw [upd_same, e1]
    | some n =>
      rw [hn] at rr2
      cases rr2.ro.int
      refine ⟨_, rfl, rfl, _, rfl, ?_⟩
      refine ite2 (fun c => by simp at c) (fun c => ?_)
      exact ⟨_, rfl, qs n hn _ w2 f3⟩
/-! ### Words.factors -/
def spFactors (K : PySem.W.Frag) (Tb : List (Addr × Str)) (C I : Addr) : Sp := fun vs H Q E => ∃ (a ra la s0 : Addr) (J : Hp → Prop) (row : List Str) (p : Nat) (ls : List PyData), vs = [.ref a] ∧ drW K Tb s0 J ∧ WSt K (s0 :: Tb.map (·.1)) J a ra la row ∧ WAt K C J a ra la row H p ls ∧
  (∀ i, knownW (wAt row i) = true) ∧ p ≤ row.length ∧ (∀ q c, facR row 6 p = .ok q c → ∀ v H' (fs : List Int), WAt K C J a ra la row H' q ls → Fx (a :: la :: s0 :: Tb.map (·.1)) H H' → Dp K H' v (.tuple (fs.map .int)) → Q v H') ∧
  (∀ q, facR row 6 p = .bad q → BadE I J (a :: la :: s0 :: Tb.map (·.1)) H q E)
theorem facR_not {row : List Str} {m p : Nat} (h : wAt row p ≠ ";") : facR row m p = match numOf (wAt row p) (-9) 9 with | none => .bad p | some _ => match m with | 0 => .bad p | m + 1 => facR row m (p + 1) := by
  cases m with
  | zero =>
    rw [facR, if_neg h]
    cases numOf (wAt row p) (-9) 9 <;> rfl
  | succ m =>
    rw [facR, if_neg h]
theorem facR_semi {row : List Str} {m p : Nat} (h : wAt row p = ";") : facR row m p = .ok (p + 1) 0 := by
  cases m with
  | zero => rw [facR, if_pos h]
  | succ m => rw [facR, if_pos h]
set_option maxHeartbeats 8000000 in
theorem ok_Words_factors (T : Txt P w K mg) (tb_number_of : LamX.TabB base mg T.c_number_of T.t_number_of) : FnOk P w K mg base (L2.CX P w) 3 T.a_Words_factors T.fd_Words_factors ["self"] (spFactors K T.Tb T.C_Words T.er.I) := by
  have nd := sc_Words_factors.nd
  refine T.F_Words_factors.okX sc_Words_factors (fun vs H Q E h => ?_) (fun cdv A outer s H vs Q E hr h => ?_)
  · obtain ⟨a, ra, la, s0, J, row, p, ls, rfl, _⟩ := h
    rfl
  · obtain ⟨a, ra, la, s0, J, row, p, ls, rfl, hW, st, wa, kn, hp, qs, qn⟩ := h
    obtain ⟨tk, hk⟩ := T.k_MOST_FACTOR
    obtain ⟨tl, hl⟩ := T.k_MOST_FACTORS
    refine ⟨_, pss_cons (ps_set (i := 1) nd rfl (.inl rfl) (pe_lst pa_nil))
      (pss_cons (ps_set (i := 2) nd rfl (.inl rfl) (pe_meth0 (pv 0) T.cl_Words T.me_Words_word (ok_Words_word T) (hr.mono (by decide)) T.b_Words_word .nil pass0))
      (pss_cons (ps_while (passes_of rfl) (pt_cmpR op_ne (pv 2) pe_str (nomark _))
        (pss_cons (ps_set (i := 3) nd rfl (.inl rfl) (pe_call (ok_number_of T tb_number_of) (hr.mono (by decide)) (by rfl) T.m_number_of T.F_number_of.kp T.b_number_of .nil pass0 (pa_cons (pv 2) (pa_cons (pe_un un_neg (pe_glob (v := .int 9) (by rfl) hk ⟨_, rfl⟩)) (pa_cons (pe_glob (v := .int 9) (by rfl) hk ⟨_, rfl⟩) pa_nil)))))
        (pss_cons (ps_if (PW.pt (pw_or (pt_cmpR op_isN (pv 3) pe_non (nomark _)) (pw_or1 (pt_cmpR op_eq (pe_callB call_len_seq (by rfl) T.z_len bo_len (pa_cons (pv 1) pa_nil)) (pe_glob (v := .int 6) (by rfl) hl ⟨_, rfl⟩) (nomark _))))) (pss_one (ps_raise rfl (takes_of rfl rfl rfl rfl) (pmk_inv (k := 0) T.er.sup T.er.gI T.er.gsu (hr.mono (by decide)) (pa_cons (pe_op op_sub (pe_fld (pv 0) rfl) pe_int) pa_nil)))) pss_nil)
        (pss_cons (ps_expr (pe_bm PySem.F.plainAttrs_list PySem.F.slot_list_append PySem.F.type_list_append mt_append (pv 1) (pa_cons (pv 3) pa_nil)))
        (pss_one (ps_set (i := 2) nd rfl (.inl rfl) (pe_meth0 (pv 0) T.cl_Words T.me_Words_word (ok_Words_word T) (hr.mono (by decide)) T.b_Words_word .nil pass0)))))))
      (pss_one (ps_ret (pe_callTy call_tuple_of (by rfl) T.z_tuple bo_tuple (pa_cons (pv 1) pa_nil)))))), ?_⟩
    refine ⟨Nat.zero_le _, fun x hx => ?_⟩
    obtain ⟨nxS, nra, nla, nxT⟩ := wa.out hW hx
    obtain ⟨w0, f0⟩ := wa.new (o := .lst []) hW st hx
    obtain ⟨dx0, ea0⟩ := w0.at_
    refine ⟨_, rfl, a, dx0, _, rfl, ea0, wf_no, a, ra, la, _, J, row, p, ls, rfl, st, w0, fun H1 w1 f1 => ?_⟩
    have hx1 : H1 x = some (.lst []) := f1.keep x _ nxT upd_same
    refine ⟨fun m σ H' => ∃ (i : Nat) (fs : List Int) (y3 : Option V), m = 7 - i ∧ i ≤ 6 ∧ fs.length = i ∧ p + i ≤ row.length ∧ facR row (6 - i) (p + i) = facR row 6 p ∧ σ = [some (.ref a), some (.ref x), some (.str (wAt row (p + i))), y3] ∧ WAt K T.C_Words J a ra la row H' (p + i + 1) ls ∧ H' x = some (.lst (fs.map V.int)) ∧ Fx (a :: la :: s0 :: T.Tb.map (·.1)) H H', ⟨_, 0, [], none, rfl, Nat.zero_le _, rfl, hp, rfl, rfl, w1, hx1, f0.trans f1⟩, ?_⟩
    rintro m σ H2 ⟨i, fs, y3, rfl, hi, lfs, hpi, efac, rfl, w2, hx2, F2⟩
    refine ⟨_, rfl, rfl, _, rfl, ?_⟩
    by_cases hs : wAt row (p + i) = ";"
    · refine ite2 (fun c => absurd (show ¬ (!decide (V.str (wAt row (p + i)) = V.str ";")) = true by simp [hs]) (fun z => z c)) (fun _ => ?_)
      rw [facR_semi hs] at efac
      refine ⟨_, rfl, x, _, rfl, .inl ⟨SqL.of hx2, fun l hl => ?_⟩⟩
      obtain ⟨w5, f5⟩ := w2.new (o := .tup (fs.map V.int)) hW st hl
      exact qs _ _ efac.symm _ _ fs w5 (F2.trans f5) (.tup (SqT.of upd_same) (Ab.dpAll_ints fs))
    · refine ite2 (fun _ => ?_) (fun c => absurd (show (!decide (V.str (wAt row (p + i)) = V.str ";")) = true by simp [hs]) c)
      rw [facR_not hs] at efac
      -- what the raise leaves
      have raise_ : ∀ {H3 : Hp} {y : Option V} {E' : Unit → Prop}, WAt K T.C_Words J a ra la row H3 (p + i + 1) ls → Fx (a :: la :: s0 :: T.Tb.map (·.1)) H H3 → facR row 6 p = .bad (p + i) → ∀ d, H3 d = none → E (.ref T.er.I) (some d) (upd H3 d (.xd [(("number" : Str), .int (((p + i + 1 : Nat) : Int) - 1))])) := fun {H3 y E'} w3 F3 e d hd => by
        obtain ⟨w4, f4⟩ := w3.new (o := .xd [(("number" : Str), .int (((p + i + 1 : Nat) : Int) - 1))]) hW st hd
        refine qn _ e d _ w4.j (F3.trans f4) ?_
        have e1 : ((p + i + 1 : Nat) : Int) - 1 = ((p + i : Nat) : Int) := by omega
        rw [upd_same, e1]
      refine ⟨fun σ' H' => ∃ (fs' : List Int) (y3 : Option V), fs'.length = i + 1 ∧ i + 1 ≤ 6 ∧ p + (i + 1) ≤ row.length ∧ facR row (6 - (i + 1)) (p + (i + 1)) = facR row 6 p ∧ σ' = [some (.ref a), some (.ref x), some (.str (wAt row (p + (i + 1)))), y3] ∧ WAt K T.C_Words J a ra la row H' (p + (i + 1) + 1) ls ∧ H' x = some (.lst (fs'.map V.int)) ∧ Fx (a :: la :: s0 :: T.Tb.map (·.1)) H H', fun σ' H' ⟨fs', y3, e0, e1, e2, e3, e, w, hx, F⟩ => ⟨_, by omega, i + 1, fs', y3, rfl, e1, e0, e2, e3, e, w, hx, F⟩, ?_⟩
      refine ⟨_, rfl, 9, rfl, s0, J, [.dat (.str (wAt row (p + i))), .dat (.int (-9)), .dat (.int 9)], fun r => r = .dat (optD (numOf (wAt row (p + i)) (-9) 9)), hW, w2.j, .cons ⟨.str _, rfl⟩ (.cons ⟨.int _, rfl⟩ (.cons ⟨.int _, rfl⟩ .nil)), ⟨_, _, _, rfl, kn _, rfl⟩, fun v H3 r f3 j3 rr3 _ er => ?_⟩
      subst er
      have w3 := w2.keep st f3 j3
      have hx3 := f3.keep x _ nxS hx2
      have F3 := F2.trans (Lw.Fx.wide f3)
      have hz := st.hz
      obtain ⟨dx3, ea3⟩ := w3.at_
      cases hn : numOf (wAt row (p + i)) (-9) 9 with
      | none =>
        rw [hn] at rr3 efac
        cases rr3.ro.non
        refine ⟨_, rfl, rfl, _, rfl, ?_⟩
        refine ite2 (fun _ => ?_) (fun c => by simp at c)
        refine ⟨_, rfl, a, _, dx3, _, _, rfl, ea3, T.cl_Words, T.na_Words_position, wf_pos, _, 1, rfl, rfl, _, rfl, small_log (by omega) (by omega), fun d hd => ?_⟩
        exact raise_ (y := none) (E' := fun _ => True) w3 F3 efac.symm d hd
      | some n =>
        rw [hn] at rr3 efac
        cases rr3.ro.int
        have hlt := wAt_lt (row := row) (p := p + i) (fun z => by rw [z, numOf_blank] at hn; cases hn)
        refine ⟨_, rfl, rfl, _, rfl, ?_⟩
        refine ite2 (fun c => by simp at c) (fun _ => ?_)
        refine ⟨_, rfl, x, _, rfl, .inl (SqL.of hx3), rfl, _, rfl, ?_⟩
        have l3 : (fs.map V.int).length = i := by rw [List.length_map]; exact lfs
        rw [l3]
        refine ite2 (fun c => ?_) (fun c => ?_)
        · have c' := V.int.inj (of_decide_eq_true c)
          have i6 : i = 6 := by omega
          subst i6
          refine ⟨_, rfl, a, _, dx3, _, _, rfl, ea3, T.cl_Words, T.na_Words_position, wf_pos, _, 1, rfl, rfl, _, rfl, small_log (by omega) (by omega), fun d hd => ?_⟩
          exact raise_ (y := none) (E' := fun _ => True) w3 F3 efac.symm d hd
        · have i6 : i < 6 := by
            rcases Nat.lt_or_ge i 6 with z | z
            · exact z
            · have : i = 6 := by omega
              subst this
              exact absurd (decide_eq_true rfl) c
          obtain ⟨k, ek⟩ : ∃ k, 6 - i = k + 1 := ⟨5 - i, by omega⟩
          rw [ek] at efac
          have ek2 : 6 - (i + 1) = k := by omega
          refine ⟨_, rfl, .inl ⟨rfl, _, SqL.of hx3⟩, _, rfl, x, _, _, rfl, rfl, hx3, by rw [l3, sizeLine_eq]; omega, ?_⟩
          have w4 := w3.other (ys := fs.map V.int ++ [.int n]) hW wa.j hx hx3 nra nla
          have F4 := fx_other (ys := fs.map V.int ++ [.int n]) F3 hx hx3
          obtain ⟨dx4, ea4⟩ := w4.at_
          refine ⟨_, rfl, a, dx4, _, rfl, ea4, wf_no, a, ra, la, _, J, row, p + i + 1, ls, rfl, st, w4, fun H5 w5 f5 => ⟨fs ++ [n], _, by simp [lfs], by omega, by omega, by rw [ek2]; exact efac, rfl, w5, ?_, F4.trans f5⟩⟩
          rw [f5.keep x _ nxT upd_same, List.map_append]
          rfl
/-! ### Words.line -/
/-! #### names -/
theorem ok_below : PyData.strOk "below" = true := by decide +kernel
theorem ok_rest : PyData.strOk "rest" = true := by decide +kernel
theorem ok_there : PyData.strOk "there" = true := by decide +kernel
theorem ok_kind (k : RK) : PyData.strOk k.name = true := by cases k <;> decide +kernel
theorem rest_below : ¬ (("rest" : Str) = "below") := by decide +kernel
theorem kind_below (k : RK) : ¬ (k.name = "below") := by cases k <;> decide +kernel
theorem kind_rest (k : RK) : ¬ (k.name = "rest") := by cases k <;> decide +kernel
theorem below_there : ¬ (("below" : Str) = "there") := by decide +kernel
theorem rest_there : ¬ (("rest" : Str) = "there") := by decide +kernel
theorem kind_there (k : RK) : (k.name = "there") ↔ k = .th := by cases k <;> decide +kernel
theorem five_in (k : RK) : (List.any [PyData.str "below", .str "rest", .str "not", .str "both", .str "there"] fun z => PyData.eqv z (.str k.name)) = true := by cases k <;> decide +kernel
theorem five_b : (List.any [PyData.str "below", .str "rest", .str "not", .str "both", .str "there"] fun z => PyData.eqv z (.str "below")) = true := by decide +kernel
theorem five_r : (List.any [PyData.str "below", .str "rest", .str "not", .str "both", .str "there"] fun z => PyData.eqv z (.str "rest")) = true := by decide +kernel
theorem five_u : (List.any [PyData.str "below", .str "rest", .str "not", .str "both", .str "there"] fun z => PyData.eqv z (.str "under")) = false := by decide +kernel
theorem ok_under : PyData.strOk "under" = true := by decide +kernel
theorem lay_str_ints {z : Str} (h : PyData.strOk z = true) (xs : List Int) : PyData.canLay0 (.tuple (.str z :: xs.map .int)) = true ∧ PyData.depth (.tuple (.str z :: xs.map .int)) ≤ 1 := by
  obtain ⟨h1, h2⟩ := flat_map (f := PyData.int) (fun _ => rfl) (fun _ => rfl) xs
  rw [PyData.canLay0, PyData.depth, PyData.canLayAll0, PyData.depthAll, PyData.canLay0, h, h1, h2, PyData.depth]
  exact ⟨rfl, by omega⟩
theorem lay_str_tup {z : Str} (h : PyData.strOk z = true) (fs xs : List Int) : PyData.canLay0 (.tuple (.str z :: intsD fs :: xs.map .int)) = true ∧ PyData.depth (.tuple (.str z :: intsD fs :: xs.map .int)) ≤ 2 := by
  obtain ⟨h1, h2⟩ := flat_map (f := PyData.int) (fun _ => rfl) (fun _ => rfl) xs
  obtain ⟨g1, g2⟩ := flat_map (f := PyData.int) (fun _ => rfl) (fun _ => rfl) fs
  unfold intsD
  rw [PyData.canLay0, PyData.depth, PyData.canLayAll0, PyData.depthAll, PyData.canLayAll0, PyData.depthAll, PyData.canLay0, h, h1, h2, PyData.depth, PyData.canLay0, PyData.depth, g1, g2]
  exact ⟨rfl, by omega⟩
theorem lay_ln (l : Ln) : PyData.canLay0 (lnD l) = true ∧ PyData.depth (lnD l) ≤ 2 := by
  cases l with
  | e => exact ⟨rfl, by show PyData.depth (.tuple []) ≤ 2; rw [PyData.depth, PyData.depthAll]; omega⟩
  | bel fs r => exact lay_str_tup ok_below fs r
  | res fs r => exact lay_str_tup ok_rest fs r
  | ref k os => have := lay_str_ints (ok_kind k) os; exact ⟨this.1, Nat.le_trans this.2 (by omega)⟩
  | und os => have := lay_str_ints ok_under os; exact ⟨this.1, Nat.le_trans this.2 (by omega)⟩
theorem sh_ln (l : Ln) : SeqAt.shaped (lnD l) = true := by
  obtain ⟨h1, h2⟩ := lay_ln l
  unfold SeqAt.shaped
  rw [h1, decide_eq_true (show PyData.depth (lnD l) ≤ 64 by omega)]
  rfl
theorem lay_lns : ∀ ls : List Ln, PyData.canLayAll0 (ls.map lnD) = true ∧ PyData.depthAll (ls.map lnD) ≤ 2
  | [] => ⟨rfl, by simp [PyData.depthAll]⟩
  | l :: ls => by
    obtain ⟨h1, h2⟩ := lay_ln l
    obtain ⟨g1, g2⟩ := lay_lns ls
    rw [List.map_cons, PyData.canLayAll0, PyData.depthAll, h1, g1]
    exact ⟨rfl, by omega⟩
theorem sh_lns (ls : List Ln) : SeqAt.shaped (.list (ls.map lnD)) = true := by
  obtain ⟨g1, g2⟩ := lay_lns ls
  unfold SeqAt.shaped
  rw [PyData.canLay0, PyData.depth, g1, decide_eq_true (show PyData.depthAll (ls.map lnD) + 1 ≤ 64 by omega)]
  rfl
theorem two_b : (List.any [PyData.str "below", .str "rest"] fun z => PyData.eqv z (.str "below")) = true := by decide +kernel
theorem two_r : (List.any [PyData.str "below", .str "rest"] fun z => PyData.eqv z (.str "rest")) = true := by decide +kernel
theorem two_k (k : RK) : (List.any [PyData.str "below", .str "rest"] fun z => PyData.eqv z (.str k.name)) = false := by cases k <;> decide +kernel
theorem sh_two : SeqAt.shaped (.list [PyData.str "below", .str "rest"]) = true := by decide +kernel
theorem sh_ok {z : Str} (h : PyData.strOk z = true) : SeqAt.shaped (.str z) = true := by rw [Ab.sh_str]; exact h
theorem BadE.from_ {I : Addr} {J : Hp → Prop} {S : List Addr} {H H1 : Hp} {n : Int} {E : XK} (h : BadE I J S H n E) (f : Fx S H H1) : BadE I J S H1 n E := fun d H' j g e => h d H' j (f.trans g) e
def spLine (K : PySem.W.Frag) (Tb : List (Addr × Str)) (C I : Addr) (m : Nat) : Sp := fun vs H Q E => ∃ (a ra la s0 : Addr) (J : Hp → Prop) (row : List Str) (p : Nat) (ls : List PyData) (r : Res), vs = [.ref a] ∧ drW K Tb s0 J ∧ WSt K (s0 :: Tb.map (·.1)) J a ra la row ∧ WAt K C J a ra la row H p ls ∧
  (∀ i, knownW (wAt row i) = true) ∧ p ≤ row.length ∧ ls.length ≤ p ∧ lineR row m p = some r ∧
  (∀ q c, r = .ok q c → ∀ H' ls', ls'.length = ls.length + c → WAt K C J a ra la row H' q ls' → Fx (a :: la :: s0 :: Tb.map (·.1)) H H' → Q (.int ((ls'.length : Int) - 1)) H') ∧ (∀ q, r = .bad q → BadE I J (a :: la :: s0 :: Tb.map (·.1)) H q E)
theorem odd_mem {z : Str} (h : z ∈ oddN) : (z, false) ∈ mem_LINES ∧ z ≠ "below" ∧ z ≠ "rest" := by
  simp only [oddN, List.mem_cons, List.not_mem_nil, or_false] at h
  rcases h with rfl | rfl | rfl | rfl | rfl | rfl | rfl | rfl | rfl | rfl <;> refine ⟨by simp [mem_LINES], by decide +kernel, by decide +kernel⟩
set_option maxHeartbeats 16000000 in
theorem ok_Words_line (T : Txt P w K mg) (tb_number_of : LamX.TabB base mg T.c_number_of T.t_number_of) : ∀ m : Nat, FnOk P w K mg base (L2.CX P w) (6 + m) T.a_Words_line T.fd_Words_line ["self"] (spLine K T.Tb T.C_Words T.er.I m)
  | 0 => fn_noneX fun vs H Q E ⟨_, _, _, _, _, _, _, _, _, _, _, _, _, _, _, _, h, _⟩ => by cases h
  | m + 1 => by
    have nd := sc_Words_line.nd
    obtain ⟨tk, hk⟩ := T.k_MOST_CONSTANT
    obtain ⟨tl, hl⟩ := T.k_MOST_DIVISOR
    obtain ⟨aL, hL, es, nL, kd, hmem⟩ := T.x_LINES
    obtain ⟨aD, hD, ktab⟩ := T.d_LINES
    refine T.F_Words_line.okX (k := 6 + m) sc_Words_line (fun vs H Q E h => ?_) (fun cdv A outer s H vs Q E hr h => ?_)
    · obtain ⟨a, ra, la, s0, J, row, p, ls, r, rfl, _⟩ := h
      rfl
    · obtain ⟨a, ra, la, s0, J, row, p, ls, r, rfl, hW, st, wa, kn, hp, hlp, er, qs, qn⟩ := h
      refine ⟨_, pss_cons (ps_set (i := 1) nd rfl (.inl rfl) (pe_meth0 (pv 0) T.cl_Words T.me_Words_word (ok_Words_word T) (hr.mono (by omega)) T.b_Words_word .nil pass0))
        (Evl.pss_cut (ps_if (pt_cmpR op_eq (pv 1) pe_str (nomark _))
          (pss_one (ps_set (i := 2) nd rfl (.inl rfl) (pe_tup (pa_cons (pv 1) (pa_cons (pe_meth0 (pv 0) T.cl_Words T.me_Words_factors (ok_Words_factors T tb_number_of) (hr.mono (by omega)) T.b_Words_factors .nil (pX (takes_of rfl rfl rfl rfl)))
            (pa_cons (pe_meth (pv 0) T.cl_Words T.me_Words_number (ok_Words_number T tb_number_of) (hr.mono (by omega)) T.b_Words_number .nil (pX (takes_of rfl rfl rfl rfl)) (pa_cons (pe_un un_neg (pe_glob (v := .int 99) (by rfl) hk ⟨_, rfl⟩)) (pa_cons (pe_glob (v := .int 99) (by rfl) hk ⟨_, rfl⟩) pa_nil))) pa_nil))))))
          (pss_one (ps_if (pt_cmpR op_eq (pv 1) pe_str (nomark _))
            (pss_cons (ps_set (i := 3) nd rfl (.inl rfl) (pe_meth0 (pv 0) T.cl_Words T.me_Words_factors (ok_Words_factors T tb_number_of) (hr.mono (by omega)) T.b_Words_factors .nil (pX (takes_of rfl rfl rfl rfl))))
            (pss_cons (ps_set (i := 4) nd rfl (.inl rfl) (pe_meth (pv 0) T.cl_Words T.me_Words_number (ok_Words_number T tb_number_of) (hr.mono (by omega)) T.b_Words_number .nil (pX (takes_of rfl rfl rfl rfl)) (pa_cons pe_int (pa_cons (pe_glob (v := .int 12) (by rfl) hl ⟨_, rfl⟩) pa_nil))))
            (pss_one (ps_set (i := 2) nd rfl (.inl rfl) (pe_tup (pa_cons (pv 1) (pa_cons (pv 3) (pa_cons (pv 4)
              (pa_cons (pe_meth (pv 0) T.cl_Words T.me_Words_number (ok_Words_number T tb_number_of) (hr.mono (by omega)) T.b_Words_number .nil (pX (takes_of rfl rfl rfl rfl)) (pa_cons pe_int (pa_cons (pe_op op_sub (pv 4) pe_int) pa_nil))) pa_nil)))))))))
            (pss_one (ps_if (pt_cmpR (op_in_kd kd) (pv 1) (pe_glob (v := .ref aL) (by rfl) hL rfl) (by with_unfolding_all rfl))
              (pss_one (ps_set (i := 2) nd rfl (.inl rfl) (pe_op op_catT (pe_tup (pa_cons (pv 1) pa_nil)) (pe_callTy call_tuple_of (by rfl) T.z_tuple bo_tuple (pa_cons
                (pe_lcX (E := E) (own := [("_", 5)]) rfl nd rfl rfl (takes_of rfl rfl rfl rfl) (fun _ _ _ _ z => z) (pi_range1 (by rfl) T.z_range (pa_cons (pe_ix ix_kdict (pe_glob (v := .ref aD) (by rfl) hD rfl) (pv 1) (fun _ _ => rfl)) pa_nil)) (blkOk_by (N := n_Words_line) (sc := defScope s_Words_line) (by decide +kernel)) (fun _ _ _ _ _ => pg_name (i := 5) nd rfl (.inl rfl)) (fun _ _ _ _ _ => pts_nil)
                  (fun _ _ _ _ _ _ hx => pe_meth0 (pv 0) T.cl_Words T.me_Words_line (ok_Words_line T tb_number_of m) hr T.b_Words_line .nil hx)) pa_nil)))))
              (pss_one (ps_raise rfl (takes_of rfl rfl rfl rfl) (pmk_inv (k := 0) T.er.sup T.er.gI T.er.gsu (hr.mono (by omega)) (pa_cons (pe_op op_sub (pe_fld (pv 0) rfl) pe_int) pa_nil)))))))))
        (pss_cons (ps_expr (pe_bm PySem.F.plainAttrs_list PySem.F.slot_list_append PySem.F.type_list_append mt_append (pe_fld (pv 0) rfl) (pa_cons (pv 2) pa_nil)))
        (pss_one (ps_ret (pe_op op_sub (pe_callB call_len_seq (by rfl) T.z_len bo_len (pa_cons (pe_fld (pv 0) rfl) pa_nil)) pe_int))))), ?_⟩
      obtain ⟨dx, ea⟩ := wa.at_
      refine ⟨_, rfl, a, dx, _, rfl, ea, wf_no, a, ra, la, _, J, row, p, _, rfl, st, wa, fun H1 w1 f1 => ?_⟩
      obtain ⟨dx1, ea1⟩ := w1.at_
      have hz := st.hz
      have rle := lineR_le hp er
      have rfit := lineR_fit er
      have tupD : ∀ {H3 : Hp} {vs : List V} {ds : List PyData} {t : Addr}, DpAll K H3 vs ds → immAll ds = true → H3 t = none → Dp K (upd H3 t (.tup vs)) (.ref t) (.tuple ds) := fun h hi ht => .tup (SqT.of upd_same) (dpAll_mono (Fx.new (S := []) ht).tup _ _ hi h)
      have immI : ∀ xs : List Int, immAll (xs.map PyData.int) = true := fun xs => immAll_of fun x hx => by
        obtain ⟨i, _, rfl⟩ := List.mem_map.mp hx
        rfl
      refine ⟨fun σ H' => ∃ v y1 y3 y4 y5 d q c ls2, σ = [some (.ref a), y1, some v, y3, y4, y5] ∧ r = .ok q (c + 1) ∧ ls2.length = ls.length + c ∧ WAt K T.C_Words J a ra la row H' q ls2 ∧ Fx (a :: la :: s0 :: T.Tb.map (·.1)) H H' ∧ Dp K H' v d ∧ imm d = true, ?_, ?_⟩
      · have hat : ∀ {H3 : Hp} {pp : Nat} {q : Nat}, WAt K T.C_Words J a ra la row H3 (pp + 1) ls → Fx (a :: la :: s0 :: T.Tb.map (·.1)) H H3 → r = .bad pp → ∀ d, H3 d = none → E (.ref T.er.I) (some d) (upd H3 d (.xd [(("number" : Str), .int (((pp + 1 : Nat) : Int) - 1))])) := fun {H3 pp _} w3 F3 e d hd => by
          obtain ⟨w4, f4⟩ := w3.new (o := .xd [(("number" : Str), .int (((pp + 1 : Nat) : Int) - 1))]) hW st hd
          refine qn _ e d _ w4.j (F3.trans f4) ?_
          have e1 : ((pp + 1 : Nat) : Int) - 1 = (pp : Int) := by omega
          rw [upd_same, e1]
        have er0 := er
        unfold lineR at er
        obtain ⟨zn, ezn⟩ : ∃ zn, zn = wAt row p := ⟨_, rfl⟩
        have ezn' : row[p]?.getD "" = zn := ezn.symm
        rw [← ezn] at er
        refine ⟨_, rfl, rfl, _, rfl, ?_⟩
        rw [ezn']
        by_cases hb : zn = "below"
        · have hp1 : p + 1 ≤ row.length := wAt_lt (by rw [← ezn, hb]; decide)
          rw [if_pos hb] at er
          have er := Option.some.inj er
          refine ite2 (fun _ => ?_) (fun c => absurd (decide_eq_true (congrArg V.str hb)) c)
          refine ⟨_, rfl, _, rfl, a, dx1, _, rfl, ea1, wf_no, a, ra, la, s0, J, row, p + 1, _, rfl, hW, st, w1, kn, hp1, fun q0 c0 e0 v2 H2 fs w2 f2 d2 => ?_, fun q0 e0 => (qn q0 (by rw [← er]; unfold belR; rw [e0])).from_ f1⟩
          have eb : r = match numOf (wAt row q0) (-99) 99 with | none => .bad q0 | some _ => .ok (q0 + 1) 1 := by rw [← er]; unfold belR; rw [e0]
          have hq0 : q0 ≤ row.length := by
            have := facR_le (row := row) (m := 6) hp1
            rw [e0] at this
            exact this
          obtain ⟨dx2, ea2⟩ := w2.at_
          refine ⟨_, rfl, a, dx2, _, rfl, ea2, wf_no, 99, rfl, a, ra, la, s0, J, row, q0, _, -99, 99, rfl, hW, st, w2, kn _, hq0, fun n hn H3 w3 f3 => ⟨by rw [sizeLine_eq]; simp, fun t ht => ?_⟩, fun hn => (qn q0 (by rw [eb, hn])).from_ (f1.trans f2)⟩
          have d3 := dp_mono f3.tup _ _ (by simpa [imm] using immI fs) d2
          obtain ⟨w4, f4⟩ := w3.new (o := .tup [.str zn, v2, .int n]) hW st ht
          refine ⟨.ref t, _, _, _, _, _, q0 + 1, 0, ls, rfl, by rw [eb, hn], rfl, w4, ((f1.trans f2).trans f3).trans f4, tupD (.cons (.str _) (.cons d3 (.cons (.int _) .nil))) ?_ ht, ?_⟩
          · simp [immAll, imm, immI]
          · simp [immAll, imm, immI]
        refine ite2 (fun c => absurd (V.str.inj (of_decide_eq_true c)) hb) (fun _ => ?_)
        rw [if_neg hb] at er
        refine ⟨_, rfl, rfl, _, rfl, ?_⟩
        by_cases hr2 : zn = "rest"
        · have hp1 : p + 1 ≤ row.length := wAt_lt (by rw [← ezn, hr2]; decide)
          rw [if_pos hr2] at er
          have er := Option.some.inj er
          refine ite2 (fun _ => ?_) (fun c => absurd (decide_eq_true (congrArg V.str hr2)) c)
          refine ⟨_, rfl, a, dx1, _, rfl, ea1, wf_no, a, ra, la, s0, J, row, p + 1, _, rfl, hW, st, w1, kn, hp1, fun q0 c0 e0 v2 H2 fs w2 f2 d2 => ?_, fun q0 e0 => (qn q0 (by rw [← er]; unfold resR; rw [e0])).from_ f1⟩
          have eb : r = match numOf (wAt row q0) 1 12 with | none => .bad q0 | some d => match numOf (wAt row (q0 + 1)) 0 (d - 1) with | none => .bad (q0 + 1) | some _ => .ok (q0 + 2) 1 := by rw [← er]; unfold resR; rw [e0]
          have hq0 : q0 ≤ row.length := by
            have := facR_le (row := row) (m := 6) hp1
            rw [e0] at this
            exact this
          obtain ⟨dx2, ea2⟩ := w2.at_
          refine ⟨_, rfl, a, dx2, _, rfl, ea2, wf_no, a, ra, la, s0, J, row, q0, _, 1, 12, rfl, hW, st, w2, kn _, hq0, fun n hn H3 w3 f3 => ?_, fun hn => (qn q0 (by rw [eb, hn])).from_ (f1.trans f2)⟩
          rw [hn] at eb
          have hq1 : q0 + 1 ≤ row.length := wAt_lt (row := row) (p := q0) (fun z => by rw [z, numOf_blank] at hn; cases hn)
          obtain ⟨dx3, ea3⟩ := w3.at_
          refine ⟨_, rfl, _, rfl, _, rfl, _, rfl, a, dx3, _, rfl, ea3, wf_no, _, rfl, n, 1, rfl, rfl, a, ra, la, s0, J, row, q0 + 1, _, 0, n - 1, rfl, hW, st, w3, kn _, hq1, fun k hk H4 w4 f4 => ⟨by rw [sizeLine_eq]; simp, fun t ht => ?_⟩, fun hk => (qn (q0 + 1) (by rw [eb]; dsimp only; rw [hk])).from_ ((f1.trans f2).trans f3)⟩
          have d3 := dp_mono f4.tup _ _ (by simpa [imm] using immI fs) (dp_mono f3.tup _ _ (by simpa [imm] using immI fs) d2)
          obtain ⟨w5, f5⟩ := w4.new (o := .tup [.str zn, v2, .int n, .int k]) hW st ht
          refine ⟨.ref t, _, _, _, _, _, q0 + 2, 0, ls, rfl, by rw [eb]; dsimp only; rw [hk], rfl, w5, (((f1.trans f2).trans f3).trans f4).trans f5, tupD (.cons (.str _) (.cons d3 (.cons (.int _) (.cons (.int _) .nil)))) ?_ ht, ?_⟩
          · simp [immAll, imm, immI]
          · simp [immAll, imm, immI]
        refine ite2 (fun c => absurd (V.str.inj (of_decide_eq_true c)) hr2) (fun _ => ?_)
        rw [if_neg hr2] at er
        have kids : (∃ k : Nat, (zn, true) ∈ mem_LINES ∧ tab_LINES zn = some (.int (k : Int)) ∧ 1 ≤ k ∧ k ≤ 2 ∧ upR (manyR (lineR row m) k (p + 1)) = some r ∧ zn ≠ "") ∨ (zn ∈ oddN ∧ r = .bad p) := by
          split at er
          · rename_i h; exact .inl ⟨1, by rw [h]; simp [mem_LINES], by rw [h]; with_unfolding_all rfl, by omega, by omega, er, by rw [h]; decide⟩
          split at er
          · rename_i h; exact .inl ⟨2, by rw [h]; simp [mem_LINES], by rw [h]; with_unfolding_all rfl, by omega, by omega, er, by rw [h]; decide⟩
          split at er
          · rename_i h; exact .inl ⟨1, by rw [h]; simp [mem_LINES], by rw [h]; with_unfolding_all rfl, by omega, by omega, er, by rw [h]; decide⟩
          split at er
          · rename_i h; exact .inr ⟨h, (Option.some.inj er).symm⟩
          · cases er
        rcases kids with ⟨k, hmk, htk, k1, k2, hkr, hne⟩ | ⟨hodd, rbad⟩
        · have hp1 : p + 1 ≤ row.length := wAt_lt (by rw [← ezn]; exact hne)
          obtain ⟨rk, hrk, hsk⟩ := hmem _ hmk
          refine ⟨_, rfl, zn, rk, rfl, rfl, hrk, _, rfl, ?_⟩
          refine ite2 (fun _ => ?_) (fun c => absurd hsk c)
          refine ⟨_, rfl, by rw [sizeLine_eq]; simp, fun t1 ht1 => ?_⟩
          obtain ⟨w2, f2⟩ := w1.new (o := .tup [.str zn]) hW st ht1
          have t1t : SqT K (upd H1 t1 (.tup [V.str zn])) t1 [.str zn] := SqT.of upd_same
          generalize upd H1 t1 (.tup [V.str zn]) = H2 at *
          obtain ⟨vk, kdct, dk⟩ := ktab zn (.int (k : Int)) htk
          have vk' : vk = .int (k : Int) := by
            have := (dk H2).1
            cases this
            rfl
          subst vk'
          refine ⟨_, rfl, aD, zn, _, rfl, rfl, kdct, (k : Int), rfl, by omega, by omega, fun D hD => ?_⟩
          obtain ⟨nDS, nDr, nDl, nDT⟩ := w2.out hW hD
          obtain ⟨w3, f3⟩ := w2.new (o := .lst []) hW st hD
          refine ⟨fun i m' H' => ∃ (is : List Int) (q c : Nat) (ls' : List PyData), m' = k - i ∧ i ≤ k ∧ is.length = i ∧ q ≤ row.length ∧ p + 1 + c ≤ q ∧ ls'.length = ls.length + c ∧ manyR (lineR row m) k (p + 1) = addR c (manyR (lineR row m) (k - i) q) ∧ WAt K T.C_Words J a ra la row H' q ls' ∧ H' D = some (.lst (is.map V.int)) ∧ Fx (a :: la :: s0 :: T.Tb.map (·.1)) H2 H', ⟨k, [], p + 1, 0, ls, rfl, Nat.zero_le _, rfl, hp1, by omega, rfl, by rw [Nat.sub_zero, addR_zero], w3, upd_same, f3⟩, ?_⟩
          rintro i m' H3 ⟨is, q, c, ls', rfl, hi, lis, hq, hpc, lls, hmr, w4, hD4, F4⟩
          obtain ⟨dx4, ea4⟩ := w4.at_
          by_cases hlt : i < k
          · refine .inr ⟨by show i < (k : Int).toNat; omega, fun H' => ∃ (is' : List Int) (q c : Nat) (ls' : List PyData), is'.length = i + 1 ∧ q ≤ row.length ∧ p + 1 + c ≤ q ∧ ls'.length = ls.length + c ∧ manyR (lineR row m) k (p + 1) = addR c (manyR (lineR row m) (k - (i + 1)) q) ∧ WAt K T.C_Words J a ra la row H' q ls' ∧ H' D = some (.lst (is'.map V.int)) ∧ Fx (a :: la :: s0 :: T.Tb.map (·.1)) H2 H', fun H' ⟨is', q, c, ls', h1, h2, h3, h4, h5, h6, h7, h8⟩ => ⟨k - (i + 1), by omega, is', q, c, ls', rfl, by omega, h1, h2, h3, h4, h5, h6, h7, h8⟩, fun x H' hy => ?_⟩
            obtain ⟨rfl, rfl⟩ := hy
            obtain ⟨j, ej⟩ : ∃ j, k - i = j + 1 := ⟨k - i - 1, by omega⟩
            have ej2 : k - (i + 1) = j := by omega
            rw [ej] at hmr
            cases hg : lineR row m q with
            | none =>
              exfalso
              rw [manyR_none hg] at hmr
              rw [hmr] at hkr
              cases hkr
            | some r1 =>
              have rle1 := lineR_le hq hg
              have rfit1 := lineR_fit hg
              refine ⟨rfl, ?_⟩
              change tMeth T.C_Words "line" (spLine K T.Tb T.C_Words T.er.I m) [] E (tVar 0) tNil _ _ _
              refine ⟨_, rfl, a, dx4, _, rfl, ea4, wf_no, a, ra, la, s0, J, row, q, ls', r1, rfl, hW, st, w4, kn, hq, by omega, hg, fun q1 c1 e1 H5 ls5 l5 w5 f5 => ⟨_, f5.keep _ _ nDT hD4, ?_, is ++ [(ls5.length : Int) - 1], q1, c + c1, ls5, ?_, ?_, ?_, ?_, ?_, ?_, ?_, ?_⟩, fun q1 e1 => ?_⟩
              · rw [List.length_map, lis, sizeLine_eq]
                omega
              · simp [lis]
              · rw [e1] at rle1; exact rle1
              · rw [e1] at rfit1
                have : q + c1 ≤ q1 := rfit1
                omega
              · rw [l5, lls]; omega
              · rw [hmr, manyR_ok (by rw [hg, e1]), addR_add, ej2]
              · exact w5.other (ys := is.map V.int ++ [.int ((ls5.length : Int) - 1)]) hW w2.j hD (f5.keep _ _ nDT hD4) nDr nDl
              · rw [upd_same, List.map_append]
                rfl
              · exact fx_other (F4.trans f5) hD (f5.keep _ _ nDT hD4)
              · refine (qn q1 ?_).from_ (((f1.trans f2).trans F4))
                rw [manyR_bad (by rw [hg, e1])] at hmr
                rw [hmr] at hkr
                exact (Option.some.inj hkr).symm
          · have e : i = k := by omega
            subst e
            rw [Nat.sub_self] at hmr
            refine .inl ⟨by show (i : Int).toNat ≤ i; omega, D, _, rfl, .inl ⟨SqL.of hD4, fun t2 ht2 => ?_⟩⟩
            obtain ⟨w5, f5⟩ := w4.new (o := .tup (is.map V.int)) hW st ht2
            have t1b := sqT_keep f5.tup (sqT_keep F4.tup t1t)
            refine ⟨t1, t2, _, _, rfl, rfl, t1b, SqT.of upd_same, by simp, by rw [List.length_map, lis, sizeLine_eq]; simp; omega, fun e => absurd (congrArg List.length e) (by rw [List.length_map, lis]; simp; omega), fun _ t3 ht3 => ?_⟩
            generalize upd H3 t2 (.tup (is.map V.int)) = H4 at *
            obtain ⟨w6, f6⟩ := w5.new (o := .tup ([V.str zn] ++ is.map V.int)) hW st ht3
            refine ⟨.ref t3, _, _, _, _, .tuple (.str zn :: is.map .int), q, c, ls', rfl, ?_, lls, w6, (((f1.trans f2).trans F4).trans f5).trans f6, tupD (.cons (.str _) (Ab.dpAll_ints _)) ?_ ht3, ?_⟩
            · rw [hmr] at hkr
              exact (Option.some.inj hkr).symm
            · simp [immAll, imm, immI]
            · simp [immAll, imm, immI]
        · obtain ⟨rk, hrk, hsk⟩ := hmem _ (odd_mem hodd).1
          refine ⟨_, rfl, zn, rk, rfl, rfl, hrk, _, rfl, ?_⟩
          refine ite2 (fun c => absurd c (by rw [hsk]; simp)) (fun _ => ?_)
          refine ⟨_, rfl, a, _, dx1, _, _, rfl, ea1, T.cl_Words, T.na_Words_position, wf_pos, _, 1, rfl, rfl, _, rfl, small_log (by omega) (by omega), fun d hd => ?_⟩
          exact hat (q := 0) w1 f1 rbad d hd
      · rintro σ H2 ⟨v, y1, y3, y4, y5, d, q, c, ls2, rfl, rr, hl2, w2, F2, dv, iv⟩
        have h1 : q ≤ row.length := by rw [rr] at rle; exact rle
        have h2 : p + (c + 1) ≤ q := by rw [rr] at rfit; exact rfit
        obtain ⟨dx2, ea2⟩ := w2.at_
        obtain ⟨vs2, hl2', dv2, iv2⟩ := w2.lin
        have lv2 : vs2.length = ls2.length := dpAll_length dv2
        refine ⟨_, rfl, a, T.C_Words, dx2, _, _, rfl, ea2, T.cl_Words, T.na_Words_lines, wf_lines, .inl ⟨rfl, _, SqL.of hl2'⟩, _, rfl, la, _, _, rfl, rfl, hl2', by rw [sizeLine_eq]; omega, ?_⟩
        obtain ⟨w3, f3⟩ := w2.add st hl2' dv2 iv2 dv iv
        have hl3 : (upd H2 la (.lst (vs2 ++ [v]))) la = some (.lst (vs2 ++ [v])) := upd_same
        generalize upd H2 la (.lst (vs2 ++ [v])) = H3 at *
        obtain ⟨dx3, ea3⟩ := w3.at_
        refine ⟨_, rfl, a, T.C_Words, dx3, _, _, rfl, ea3, T.cl_Words, T.na_Words_lines, wf_lines, la, _, rfl, .inl (SqL.of hl3), _, 1, rfl, rfl, ?_⟩
        have := qs q (c + 1) rr H3 (ls2 ++ [d]) (by simp [hl2]; omega) w3 (F2.trans f3)
        rw [List.length_append, List.length_singleton] at this
        rw [List.length_append, lv2]
        exact this
/-! ### parse_saying -/
/-- what the law is told -/
def toldR (row : List Str) : Option Int := match lineR row 60 0 with
  | none => none
  | some (.bad q) => some q
  | some (.ok q m) => if q < row.length then some q else if 40 < m then some (-4) else some (-1)
def spParse (K : PySem.W.Frag) (Tb : List (Addr × Str)) (I T : Addr) : Sp := fun vs H Q E => ∃ (s0 : Addr) (J : Hp → Prop) (z : Str) (row : List Str) (n : Int), vs = [.str z] ∧ drW K Tb s0 J ∧ J H ∧ Txt.split z " " = row ∧ z.length + 2 ≤ sizeLine ∧ row.length ≤ 1000000 ∧ (∀ i, knownW (wAt row i) = true) ∧ toldR row = some n ∧
  (n = -1 → ∀ v H', J H' → Fx (s0 :: Tb.map (·.1)) H H' → Q v H') ∧ (0 ≤ n → BadE I J (s0 :: Tb.map (·.1)) H n E) ∧ (n = -4 → ∀ H', J H' → Fx (s0 :: Tb.map (·.1)) H H' → E (.ref T) none H')
set_option maxHeartbeats 16000000 in
theorem ok_parse_saying (T : Txt P w K mg) (tb_number_of : LamX.TabB base mg T.c_number_of T.t_number_of) : FnOk P w K mg base (L2.CX P w) 67 T.a_parse_saying T.fd_parse_saying ["text"] (spParse K T.Tb T.er.I T.er.T) := by
  have nd := sc_parse_saying.nd
  refine T.F_parse_saying.okX sc_parse_saying (fun vs H Q E h => ?_) (fun cdv A outer s H vs Q E hr h => ?_)
  · obtain ⟨st, J, z, row, n, rfl, _⟩ := h
    rfl
  · obtain ⟨s0, J, z, row, n, rfl, hW, hJ, hsp, hz, hw, kn, ht, q1, q2, q3⟩ := h
    obtain ⟨tk, hk⟩ := T.k_MOST_LINES
    refine ⟨_, pss_cons (ps_set (i := 1) nd rfl (.inl rfl) (pe_make T.mk_Words (ok_Words___init__ T) (hr.mono (by decide)) (by rfl) T.mC_Words T.b_Words___init__ .nil pass0 (pa_cons (pv 0) pa_nil)))
      (pss_cons (ps_expr (pe_meth0 (pv 1) T.cl_Words T.me_Words_line (ok_Words_line T tb_number_of 60) (hr.mono (by decide)) T.b_Words_line .nil (pX (takes_of rfl rfl rfl rfl))))
      (pss_cons (ps_if (pt_cmpR op_lt (pe_fld (pv 1) rfl) (pe_callB call_len_seq (by rfl) T.z_len bo_len (pa_cons (pe_fld (pv 1) rfl) pa_nil)) (nomark _)) (pss_one (ps_raise rfl (takes_of rfl rfl rfl rfl) (pmk_inv (k := 0) T.er.sup T.er.gI T.er.gsu (hr.mono (by decide)) (pa_cons (pe_fld (pv 1) rfl) pa_nil)))) pss_nil)
      (pss_cons (ps_if (pt_cmpR op_gt (pe_callB call_len_seq (by rfl) T.z_len bo_len (pa_cons (pe_fld (pv 1) rfl) pa_nil)) (pe_glob (v := .int 40) (by rfl) hk ⟨_, rfl⟩) (nomark _)) (pss_one (ps_raise rfl (takes_of rfl rfl rfl rfl) (pmk_own PySem.F.excBase_ValueError T.er.too T.er.gT T.er.kT (raises_own T.er.exT T.er.tyT) (by rfl)))) pss_nil)
      (pss_one (ps_ret (pe_callTy call_tuple_of (by rfl) T.z_tuple bo_tuple (pa_cons (pe_fld (pv 1) rfl) pa_nil))))))), ?_⟩
    refine ⟨_, rfl, fun x dx hx hdx ndx => ?_⟩
    have nxS := drOut hW hJ hx
    have ndS := drOut hW hJ hdx
    have k0 : ∀ b o, H b = some o → (upd (upd H dx (.own x)) x (.ins T.C_Words dx [])) b = some o := fun b o e => by
      rw [upd_ne (ne_of_none e hx), upd_ne (ne_of_none e hdx)]
      exact e
    have t0 : TEx H (upd (upd H dx (.own x)) x (.ins T.C_Words dx [])) := fun b us r => by
      rcases r with r | ⟨o, r⟩
      · exact .inl (k0 _ _ r)
      · exact .inr ⟨o, k0 _ _ r⟩
    have j0 := (drOk s0 J H hW hJ).jst H _ hJ fun b o _ e => k0 b o e
    refine ⟨x, dx, s0, J, z, row, rfl, hW, j0, nxS, upd_same, hsp, hz, hw, fun ra la H1 st w1 k1 t1 hla => ⟨rfl, ?_⟩⟩
    have hla0 : H la = none := by
      cases e : H la with
      | none => rfl
      | some o => rw [k0 _ _ e] at hla; cases hla
    obtain ⟨dx1, ea1⟩ := w1.at_
    -- from the inner heaps to the outer
    have out : ∀ {H2 : Hp}, Fx (x :: la :: s0 :: T.Tb.map (·.1)) H1 H2 → Fx (s0 :: T.Tb.map (·.1)) H H2 := fun {H2} f => by
      refine ⟨fun b o nb e => ?_, fun b us r => ?_⟩
      · have nbx : b ≠ x := fun z => by rw [z, hx] at e; cases e
        have nbl : b ≠ la := fun z => by rw [z, hla0] at e; cases e
        have nbT : b ∉ x :: la :: s0 :: T.Tb.map (·.1) := fun z => by
          rcases List.mem_cons.mp z with z | z
          · exact nbx z
          · rcases List.mem_cons.mp z with z | z
            · exact nbl z
            · exact nb z
        exact f.keep b o nbT (k1 b o nbx (k0 b o e))
      · exact f.tup _ _ (t1 _ _ (t0 _ _ r))
    cases hl : lineR row 60 0 with
    | none => unfold toldR at ht; rw [hl] at ht; cases ht
    | some r =>
      have rle := lineR_le (Nat.zero_le _) hl
      have rfit := lineR_fit hl
      refine ⟨_, rfl, x, dx1, _, rfl, ea1, wf_no, x, ra, la, s0, J, row, 0, [], r, rfl, hW, st, w1, kn, Nat.zero_le _, Nat.zero_le _, hl, fun p m er H2 ls2 l2 w2 f2 => ?_, fun p er => ?_⟩
      · rw [er] at rle rfit
        have rle : p ≤ row.length := rle
        have rfit : 0 + m ≤ p := rfit
        have l2 : ls2.length = m := by simpa using l2
        unfold toldR at ht
        rw [hl, er] at ht
        dsimp only at ht
        obtain ⟨dx2, ea2⟩ := w2.at_
        obtain ⟨vs2, hl2, dv2, iv2⟩ := w2.lin
        have lv2 : vs2.length = m := by rw [dpAll_length dv2, l2]
        refine ⟨_, rfl, x, _, dx2, _, _, rfl, ea2, T.cl_Words, T.na_Words_position, wf_pos, _, rfl, x, _, dx2, _, _, rfl, ea2, T.cl_Words, T.na_Words_row, wf_row, ra, _, rfl, .inl (SqL.of w2.row), _, _, rfl, rfl, _, rfl, ?_⟩
        refine ite2 (fun c => ?_) (fun c => ?_)
        · have c' := of_decide_eq_true c
          rw [List.length_map] at c'
          rw [if_pos (by omega)] at ht
          have en := Option.some.inj ht
          have hzz := st.hz
          refine ⟨_, rfl, x, _, dx2, _, _, rfl, ea2, T.cl_Words, T.na_Words_position, wf_pos, _, rfl, small_log (by omega) (by omega), fun d hd => ?_⟩
          obtain ⟨w4, f4⟩ := w2.new (o := .xd [(("number" : Str), .int ((p : Nat) : Int))]) hW st hd
          refine q2 (by omega) d _ w4.j (out (f2.trans f4)) ?_
          rw [upd_same, ← en]
        · have c' : ¬ (p : Int) < ((row.map V.str).length : Int) := fun z => c (decide_eq_true z)
          rw [List.length_map] at c'
          rw [if_neg (by omega)] at ht
          refine ⟨_, rfl, x, _, dx2, _, _, rfl, ea2, T.cl_Words, T.na_Words_lines, wf_lines, la, _, rfl, .inl (SqL.of hl2), _, 40, rfl, rfl, _, rfl, ?_⟩
          refine ite2 (fun c => ?_) (fun c => ?_)
          · have c' := of_decide_eq_true c
            rw [lv2] at c'
            rw [if_pos (by omega)] at ht
            exact q3 (Option.some.inj ht).symm _ w2.j (out f2)
          · have c' : ¬ (40 : Int) < ((vs2.length : Nat) : Int) := fun z => c (decide_eq_true z)
            rw [lv2] at c'
            rw [if_neg (by omega)] at ht
            refine ⟨_, rfl, x, _, dx2, _, _, rfl, ea2, T.cl_Words, T.na_Words_lines, wf_lines, la, _, rfl, .inl ⟨SqL.of hl2, fun t ht' => ?_⟩⟩
            obtain ⟨w3, f3⟩ := w2.new (o := .tup vs2) hW st ht'
            exact q1 (Option.some.inj ht).symm _ _ w3.j (out (f2.trans f3))
      · unfold toldR at ht
        rw [hl, er] at ht
        have en := Option.some.inj ht
        intro d H' j f e
        refine q2 (by omega) d H' j (out f) ?_
        rw [e, ← en]
/-! ### _law_draw -/
/-- the list as it stands, all else as in H -/
def DrSt (st scr : Addr) (H H' : Hp) : Prop := (∃ a p s : Int, 0 ≤ p ∧ H' st = some (.lst [.int a, .int p, .ref scr, .int s])) ∧ ∀ b, b ≠ st → H' b = H b
theorem DrSt.put {st scr : Addr} {H H' : Hp} {a p s : Int} (h : ∀ b, b ≠ st → H' b = H b) (hp : 0 ≤ p) : DrSt st scr H (upd H' st (.lst [.int a, .int p, .ref scr, .int s])) :=
  ⟨⟨a, p, s, hp, upd_same⟩, fun b n => by rw [upd_ne n]; exact h b n⟩
def a_l_draw : Addr → Asp := fun st rs P => ∃ n : Int, rs = [.obj (isRef st), .dat (.int n)] ∧ 0 < n ∧ n < 1073741824 ∧ ∀ d : Int, 0 ≤ d → d < n → P (.dat (.int d))
set_option maxHeartbeats 8000000 in
theorem ok_l_draw (T : Txt P w K mg) : FnOk P w K mg base CX0 1 T.a_l_draw T.fd_l_draw ["_law_state", "_law_limit"] (dSp K (T.Tb.map (·.1)) (drW K T.Tb) a_l_draw) := by
  have nd := sc_l_draw.nd
  refine T.F_l_draw.ok sc_l_draw (fun vs H Q E h => ?_) (fun cdv A outer s H vs Q E hr h => ?_)
  · obtain ⟨st, J, rs, R, _, _, h1, ⟨n, rfl, _⟩, _⟩ := h
    exact (Paired.length h1).trans rfl
  · obtain ⟨st, J, rs, R, ⟨scr, ns, rfl⟩, ⟨⟨hne, hscr, a, p, sd, hp, hst⟩, htb⟩, hargs, ⟨n, rfl, n0, n1, hR⟩, q⟩ := h
    obtain ⟨v0, v1, rfl, r0, r1⟩ : ∃ v0 v1, vs = [v0, v1] ∧ ArgR K (st :: T.Tb.map (·.1)) H v0 (.obj (isRef st)) ∧ ArgR K (st :: T.Tb.map (·.1)) H v1 (.dat (.int n)) := by
      cases hargs with
      | cons a t =>
        cases t with
        | cons b t2 =>
          cases t2
          exact ⟨_, _, rfl, a, b⟩
    have e0 : v0 = .ref st := r0
    have e1 : v1 = .int n := r1.ro.int
    subst e0 e1
    refine ⟨_, Evl.pss_cut (ps_if (pt_cmpR op_lt (pe_ix ix_list (pv 0) pe_int (fun _ _ => rfl)) (pv 1) (nomark _))
        (pss_cons (ps_set (i := 3) nd rfl (.inl rfl) (pe_ix ix_list (pv 0) pe_int (fun _ _ => rfl)))
        (pss_cons (ps_asg (pe_op op_add (pv 3) pe_int) (pg_sub (pv 0) pe_int set_list))
        (pss_cons (ps_set (i := 4) nd rfl (.inl rfl) pe_int)
        (Evl.pss_cut (ps_if (pt_cmpR op_lt (pv 3) (pe_callB call_len_seq (by rfl) T.z_len bo_len (pa_cons (pe_ix ix_list (pv 0) pe_int (fun _ _ => rfl)) pa_nil)) (nomark _)) (pss_one (ps_set (i := 4) nd rfl (.inl rfl) (pe_ix ix_list (pe_ix ix_list (pv 0) pe_int (fun _ _ => rfl)) (pv 3) (fun _ _ => rfl)))) pss_nil)
        (pss_one (ps_if (pt_cmpR op_ge (pv 4) (pe_op op_pow pe_int pe_int) (nomark _))
          (pss_one (ps_asg (pv 4) (pg_sub (pv 0) pe_int set_list)))
          (pss_cons (ps_asg (pe_op op_modN (pe_callTy call_int1 (by rfl) T.z_int bo_int (pa_cons (pe_op op_mul (pe_op op_add (pe_op op_add (pe_op op_add (pe_ix ix_list (pv 0) pe_int (fun _ _ => rfl)) (pe_op op_modN (pe_callTy call_int1 (by rfl) T.z_int bo_int (pa_cons (pv 4) pa_nil)) pe_int)) (pv 3)) pe_int) pe_int) pa_nil)) pe_int) (pg_sub (pv 0) pe_int set_list))
          (pss_cons (ps_set (i := 5) nd rfl (.inl rfl) (pe_op op_modN (pe_callTy call_int1 (by rfl) T.z_int bo_int (pa_cons (pe_op op_add (pe_op op_mul (pe_ix ix_list (pv 0) pe_int (fun _ _ => rfl)) pe_int) pe_int) pa_nil)) pe_int))
          (pss_one (ps_asg (pe_op op_add (pe_op op_mul (pv 5) pe_int) (pe_op op_modN (pe_callTy call_int1 (by rfl) T.z_int bo_int (pa_cons (pe_op op_add (pe_op op_mul (pv 5) pe_int) (pe_ix ix_list (pv 0) pe_int (fun _ _ => rfl))) pa_nil)) pe_int)) (pg_sub (pv 0) pe_int set_list)))))))))))
        pss_nil)
      (pss_cons (ps_set (i := 2) nd rfl (.inl rfl) (pe_op op_modN (pe_callTy call_int1 (by rfl) T.z_int bo_int (pa_cons (pe_ix ix_list (pv 0) pe_int (fun _ _ => rfl)) pa_nil)) (pv 1)))
      (pss_cons (ps_asg (pe_op op_fdivN (pe_ix ix_list (pv 0) pe_int (fun _ _ => rfl)) (pv 1)) (pg_sub (pv 0) pe_int set_list))
      (pss_one (ps_ret (pv 2))))), ?_⟩
    have scr_at : ∀ H', (∀ b, b ≠ st → H' b = H b) → SqL K H' scr (ns.map V.int) := fun H' k => by
      rcases hscr with (h2 | ⟨o, h2⟩) | h2
      · exact .inl (.inl (by rw [k scr hne]; exact h2))
      · exact .inl (.inr ⟨o, by rw [k scr hne]; exact h2⟩)
      · exact .inr h2
    refine ⟨fun σ H' => DrSt st scr H H' ∧ ∃ y2 y3 y4 y5, σ = [some (.ref st), some (.int n), y2, y3, y4, y5], ?_, ?_⟩
    · -- if _law_state[0] < _law_limit
      refine ⟨_, rfl, st, _, 0, .int a, rfl, rfl, SqL.of hst, rfl, _, rfl, a, n, rfl, rfl, _, rfl, ?_⟩
      refine ite2 (fun _ => ?_) (fun _ => ⟨⟨⟨a, p, sd, hp, hst⟩, fun _ _ => rfl⟩, none, none, none, none, rfl⟩)
      -- position = state[1]; state[1] = position + 1; cell = 0
      refine ⟨_, rfl, st, _, 1, .int p, rfl, rfl, SqL.of hst, rfl, ?_⟩
      refine ⟨_, rfl, p, 1, rfl, rfl, _, rfl, st, _, 1, 1, rfl, rfl, hst, rfl, ?_⟩
      have k1 : ∀ b, b ≠ st → (upd H st (.lst [.int a, .int (p + 1), .ref scr, .int sd])) b = H b := fun b n => upd_ne n
      refine ⟨fun σ H' => H' = upd H st (.lst [.int a, .int (p + 1), .ref scr, .int sd]) ∧ ∃ m y2 y5, σ = [some (.ref st), some (.int n), y2, some (.int p), some (.int m), y5], ?_, ?_⟩
      · -- if position < len(state[2]): cell = state[2][position]
        refine ⟨_, rfl, _, rfl, st, _, 2, .ref scr, rfl, rfl, SqL.of upd_same, rfl, scr, ns.map V.int, rfl, .inl (scr_at _ k1), p, ((ns.map V.int).length : Int), rfl, rfl, _, rfl, ?_⟩
        refine ite2 (fun c => ?_) (fun _ => ⟨rfl, 0, none, none, rfl⟩)
        have c' := of_decide_eq_true c
        rw [List.length_map] at c'
        have hlt : p.toNat < ns.length := by omega
        refine ⟨_, rfl, st, _, 2, .ref scr, rfl, rfl, SqL.of upd_same, rfl, _, rfl, scr, ns.map V.int, p, .int (ns[p.toNat]), rfl, rfl, scr_at _ k1, ?_, rfl, ns[p.toNat], none, none, rfl⟩
        rw [Ab.atI_pos hp (by rw [List.length_map]; exact c'), List.getElem?_map, List.getElem?_eq_getElem hlt]
        rfl
      · rintro σ' H' ⟨rfl, m, y2, y5, rfl⟩
        refine ⟨_, rfl, 10, 18, rfl, rfl, ⟨by decide, by decide, by decide⟩, m, _, rfl, rfl, _, rfl, ?_⟩
        refine ite2 (fun _ => ?_) (fun _ => ?_)
        · refine ⟨_, rfl, _, rfl, st, _, 0, 0, rfl, rfl, upd_same, rfl, DrSt.put k1 (by omega), y2, some (.int p), some (.int m), y5, rfl⟩
        · have nz : ∀ {z : Int}, z ≠ 0 → z ≠ 0 := fun h => h
          refine ⟨_, rfl, st, _, 3, .int sd, rfl, rfl, SqL.of upd_same, rfl, _, rfl, .inl ⟨m, rfl, _, _, rfl, rfl, nz (by decide), _, _, rfl, rfl, _, rfl, _, _, rfl, rfl, _, _, rfl, rfl, _, _, rfl, rfl, .inr ⟨by decide, by decide⟩, .inl ⟨_, rfl, _, _, rfl, rfl, nz (by decide), _, rfl, st, _, 3, 3, rfl, rfl, upd_same, rfl, ?_⟩⟩⟩
          refine ⟨_, rfl, st, _, 3, .int _, rfl, rfl, SqL.of upd_same, rfl, _, _, rfl, rfl, .inr ⟨by decide, by decide⟩, _, _, rfl, rfl, .inl ⟨_, rfl, _, _, rfl, rfl, nz (by decide), ?_⟩⟩
          refine ⟨_, rfl, _, _, rfl, rfl, .inr ⟨by decide, by decide⟩, _, rfl, _, _, rfl, rfl, .inr ⟨by decide, by decide⟩, _, rfl, st, _, 3, .int _, rfl, rfl, SqL.of upd_same, rfl, _, _, rfl, rfl, .inl ⟨_, rfl, _, _, rfl, rfl, nz (by decide), _, _, rfl, rfl, _, rfl, st, _, 0, 0, rfl, rfl, upd_same, rfl, ?_⟩⟩
          exact ⟨DrSt.put (fun b n => by rw [upd_ne n]; exact k1 b n) (by omega), y2, some (.int p), some (.int m), some (.int _), rfl⟩
    · rintro σ' H' ⟨⟨⟨a', p', s', hp', hst'⟩, k'⟩, y2, y3, y4, y5, rfl⟩
      refine ⟨_, rfl, st, _, 0, .int a', rfl, rfl, SqL.of hst', rfl, .inl ⟨a', rfl, _, rfl, a', n, rfl, rfl, by omega, ?_⟩⟩
      refine ⟨_, rfl, st, _, 0, .int a', rfl, rfl, SqL.of hst', rfl, _, rfl, a', n, rfl, rfl, ⟨by omega, by omega⟩, _, rfl, st, _, 0, 0, rfl, rfl, hst', rfl, ?_⟩
      refine ⟨_, rfl, ?_⟩
      have e := fmod_pos (i := a') n0
      refine q _ _ (.dat (.int (a'.fmod n))) ⟨fun b o nb hb => ?_, fun b xs hb => ?_⟩ ⟨⟨hne, ?_, a'.fdiv n, p', s', hp', upd_same⟩, fun q hq => ?_⟩ (rr_int _) rfl (hR _ (by rw [e]; exact Int.emod_nonneg _ (by omega)) (by rw [e]; exact Int.emod_lt_of_pos _ n0))
      · have nb' : b ≠ st := fun z => nb (by simp [z])
        rw [upd_ne nb', k' b nb']
        exact hb
      · have nb' : b ≠ st := fun z => by
          subst z
          rcases hb with hb | ⟨o, hb⟩
          · rw [hst] at hb; cases hb
          · rw [hst] at hb; cases hb
        rcases hb with hb | ⟨o, hb⟩
        · exact .inl (by rw [upd_ne nb', k' b nb']; exact hb)
        · exact .inr ⟨o, by rw [upd_ne nb', k' b nb']; exact hb⟩
      · exact scr_at _ fun b n => by rw [upd_ne n]; exact k' b n
      · obtain ⟨ts, hP, ok3, hc⟩ := htb q hq
        have up : ∀ b o, (∀ xs, o ≠ .lst xs) → H b = some o → (upd H' st (.lst [.int (a'.fdiv n), .int p', .ref scr, .int s'])) b = some o := fun b o nl e => by
          have nb' : b ≠ st := fun z => by
            rw [z, hst] at e
            exact nl _ (Option.some.inj e).symm
          rw [upd_ne nb', k' b nb']
          exact e
        exact tabS_keep ⟨ts, hP, ok3, hc⟩ up
/-! ### _law_factors -/
def a_l_factors : Addr → Asp := fun st rs P => ∃ count far : Int, rs = [.obj (isRef st), .dat (.int count), .dat (.int far)] ∧ 0 ≤ count ∧ count ≤ 1000 ∧ 0 ≤ far ∧ far ≤ 1000 ∧ ∀ fs : List Int, (fs.length : Int) = count → (∀ f ∈ fs, -far ≤ f ∧ f ≤ far) → P (.dat (intsD fs))
set_option maxHeartbeats 8000000 in
theorem ok_l_factors (T : Txt P w K mg) : FnOk P w K mg base CX0 2 T.a_l_factors T.fd_l_factors ["_law_state", "_law_count", "_law_far"] (dSp K (T.Tb.map (·.1)) (drW K T.Tb) a_l_factors) := by
  refine def_draw (N := n_l_factors) (k := 1) T.F_l_factors sc_l_factors (by intro st rs R h; unfold a_l_factors at h; repeat (first | (obtain ⟨rfl, _⟩ := h; rfl) | (obtain ⟨_, h⟩ := h))) drOk (fun cdv A outer s H E st J hW hJ hr => ⟨_, (ss_cons (st_setLc 3 (own := [("_law_k", 4)]) rfl sc_l_factors.nd (ai_r1 (by rfl) T.z_range (ae_var 1)) (blkOk_by (N := n_l_factors) (sc := defScope s_l_factors) (by decide +kernel)) (fun _ _ _ _ _ => (ag_name 4 sc_l_factors.nd)) (fun _ _ _ _ _ => ats_nil) (fun _ _ _ _ _ => (ae_op oa_sub (ae_callD rfl hW (ok_l_draw T) (hr.mono (by decide)) (by rfl) T.m_l_draw T.F_l_draw.kp T.b_l_draw pass0 (aa_cons (ae_var 0) (aa_cons (ae_op oa_add (ae_op oa_mul ae_int (ae_var 2)) ae_int) aa_nil))) (ae_var 2))))
    (ss_one (st_ret (ae_ty ka_tuple (by rfl) T.z_tuple bo_tuple (aa_cons (ae_var 3) aa_nil))))), fun rs R h => ?_⟩)
  obtain ⟨count, far, rfl, c0, c1, f0, f1, q⟩ := h
  walk_at "ab"
  refine ⟨by omega, by omega, fun i acc => ∃ fs : List Int, fs.length = i ∧ (∀ f ∈ fs, -far ≤ f ∧ f ≤ far) ∧ acc = fs.map .int, ⟨[], rfl, by simp, rfl⟩, ?_, ?_⟩
  · rintro i hi acc ⟨fs, e1, e2, rfl⟩
    refine ⟨cmul_l (by omega) (by omega), _, rfl, by omega, by omega, fun d d0 d1 => ?_⟩
    walk_at "ab"
    refine ⟨size_ok (by omega), fs ++ [d - far], by simp [e1], fun f hf => ?_, by simp⟩
    rcases List.mem_append.mp hf with z | z
    · exact e2 f z
    · rw [List.mem_singleton.mp z]; omega
  · rintro acc ⟨fs, e1, e2, rfl⟩
    exact q fs (by omega) e2
/-! ### _law_atom -/
/-! #### atoms -/
/-- a sum as the laws draw it -/
def AtomL (count far : Int) (l : Ln) : Prop := ∃ fs : List Int, (fs.length : Int) = count ∧ (∀ f ∈ fs, -far ≤ f ∧ f ≤ far) ∧ ((∃ c, l = .bel fs [c] ∧ -10 ≤ c ∧ c ≤ 10) ∨ ∃ m r, l = .res fs [m, r] ∧ 1 ≤ m ∧ m ≤ 4 ∧ 0 ≤ r ∧ r < m)
theorem okF_of {fs : List Int} (h : fs.length ≤ 6) (k : ∀ f ∈ fs, -9 ≤ f ∧ f ≤ 9) : okF fs = true := by
  unfold okF
  rw [decide_eq_true h, Bool.true_and, List.all_eq_true]
  intro f hf
  rw [Bool.and_eq_true, decide_eq_true_eq, decide_eq_true_eq]
  exact k f hf
theorem AtomL.ok {count far : Int} {l : Ln} (h : AtomL count far l) (hc : count ≤ 6) (hf : far ≤ 9) (n : Int) : okL n l = true := by
  obtain ⟨fs, h1, h2, h3⟩ := h
  have hF := okF_of (fs := fs) (by omega) fun f m => by have := h2 f m; omega
  rcases h3 with ⟨c, rfl, c1, c2⟩ | ⟨m, r, rfl, m1, m2, r1, r2⟩
  · show (okF fs && _) = true
    rw [hF, decide_eq_true (show -99 ≤ c by omega), decide_eq_true (show c ≤ 99 by omega)]
    rfl
  · show (okF fs && _) = true
    rw [hF, decide_eq_true m1, decide_eq_true (show m ≤ 12 by omega), decide_eq_true r1, decide_eq_true r2]
    rfl
theorem okFrom_app : ∀ (ls ms : List Ln) (n : Int), okFrom n (ls ++ ms) = (okFrom n ls && okFrom (n + (ls.length : Nat)) ms)
  | [], ms, n => by simp [okFrom]
  | l :: ls, ms, n => by
    rw [List.cons_append, okFrom, okFrom, okFrom_app ls ms (n + 1), Bool.and_assoc, List.length_cons]
    rw [show n + 1 + (ls.length : Int) = n + ((ls.length + 1 : Nat) : Int) by omega]
/-- lines of the law's sayings: right, no line there -/
structure PlainS (ls : List Ln) : Prop where
  ok : okFrom 0 ls = true
  no : ∀ l ∈ ls, isTh l = false ∧ l ≠ .e
  ne : 1 ≤ ls.length
theorem PlainS.app {ls : List Ln} {l : Ln} (h : PlainS ls) (k : okL (ls.length : Int) l = true) (t : isTh l = false) (e : l ≠ .e) : PlainS (ls ++ [l]) :=
  ⟨by rw [okFrom_app, h.ok, Int.zero_add, okFrom, k]; rfl, fun x hx => by
    rcases List.mem_append.mp hx with z | z
    · exact h.no x z
    · rw [List.mem_singleton.mp z]; exact ⟨t, e⟩, by rw [List.length_append]; have := h.ne; omega⟩
theorem AtomL.th {count far : Int} {l : Ln} (h : AtomL count far l) : isTh l = false ∧ l ≠ .e := by
  obtain ⟨fs, _, _, ⟨c, rfl, _⟩ | ⟨m, r, rfl, _⟩⟩ := h
  · exact ⟨rfl, fun z => by cases z⟩
  · exact ⟨rfl, fun z => by cases z⟩
theorem okL_no {n x : Int} (h0 : 0 ≤ x) (h1 : x < n) : okL n (.ref .no [x]) = true := by simp [okL, RK.n, h0, h1]
theorem okL_th {n x : Int} (h0 : 0 ≤ x) (h1 : x < n) : okL n (.ref .th [x]) = true := by simp [okL, RK.n, h0, h1]
theorem okL_bo {n x y : Int} (h0 : 0 ≤ x) (h1 : x < n) (g0 : 0 ≤ y) (g1 : y < n) : okL n (.ref .bo [x, y]) = true := by simp [okL, RK.n, h0, h1, g0, g1]
theorem PlainS.no1 {ls : List Ln} {x : Int} (h : PlainS ls) (h0 : 0 ≤ x) (h1 : x < (ls.length : Nat)) : PlainS (ls ++ [.ref .no [x]]) := h.app (okL_no h0 h1) rfl (fun z => by cases z)
theorem PlainS.bo2 {ls : List Ln} {x y : Int} (h : PlainS ls) (h0 : 0 ≤ x) (h1 : x < (ls.length : Nat)) (g0 : 0 ≤ y) (g1 : y < (ls.length : Nat)) : PlainS (ls ++ [.ref .bo [x, y]]) := h.app (okL_bo h0 h1 g0 g1) rfl (fun z => by cases z)
def a_l_atom : Addr → Asp := fun st rs P => ∃ count far : Int, rs = [.obj (isRef st), .dat (.int count), .dat (.int far)] ∧ 0 ≤ count ∧ count ≤ 1000 ∧ 0 ≤ far ∧ far ≤ 1000 ∧ ∀ l : Ln, AtomL count far l → P (.dat (lnD l))
set_option maxHeartbeats 8000000 in
theorem ok_l_atom (T : Txt P w K mg) : FnOk P w K mg base CX0 3 T.a_l_atom T.fd_l_atom ["_law_state", "_law_count", "_law_far"] (dSp K (T.Tb.map (·.1)) (drW K T.Tb) a_l_atom) := by
  refine def_draw (N := n_l_atom) (k := 2) T.F_l_atom sc_l_atom (by intro st rs R h; unfold a_l_atom at h; repeat (first | (obtain ⟨rfl, _⟩ := h; rfl) | (obtain ⟨_, h⟩ := h))) drOk (fun cdv A outer s H E st J hW hJ hr => ⟨_, (ss_cons (st_set 3 sc_l_atom.nd (ae_callD rfl hW (ok_l_factors T) (hr.mono (by decide)) (by rfl) T.m_l_factors T.F_l_factors.kp T.b_l_factors pass0 (aa_cons (ae_var 0) (aa_cons (ae_var 1) (aa_cons (ae_var 2) aa_nil)))))
    (ss_cons (st_if (at_cmp (oa_eq hr.units) (ae_callD rfl hW (ok_l_draw T) (hr.mono (by decide)) (by rfl) T.m_l_draw T.F_l_draw.kp T.b_l_draw pass0 (aa_cons (ae_var 0) (aa_cons ae_int aa_nil))) ae_int)
      (ss_cons (st_set 4 sc_l_atom.nd (ae_op oa_add ae_int (ae_callD rfl hW (ok_l_draw T) (hr.mono (by decide)) (by rfl) T.m_l_draw T.F_l_draw.kp T.b_l_draw pass0 (aa_cons (ae_var 0) (aa_cons ae_int aa_nil)))))
      (ss_one (st_ret (ae_tup (aa_cons ae_str (aa_cons (ae_var 3) (aa_cons (ae_var 4) (aa_cons (ae_callD rfl hW (ok_l_draw T) (hr.mono (by decide)) (by rfl) T.m_l_draw T.F_l_draw.kp T.b_l_draw pass0 (aa_cons (ae_var 0) (aa_cons (ae_var 4) aa_nil))) aa_nil))))))))
      ss_nil)
    (ss_one (st_ret (ae_tup (aa_cons ae_str (aa_cons (ae_var 3) (aa_cons (ae_op oa_sub (ae_callD rfl hW (ok_l_draw T) (hr.mono (by decide)) (by rfl) T.m_l_draw T.F_l_draw.kp T.b_l_draw pass0 (aa_cons (ae_var 0) (aa_cons ae_int aa_nil))) ae_int) aa_nil)))))))), fun rs R h => ?_⟩)
  obtain ⟨count, far, rfl, c0, c1, f0, f1, q⟩ := h
  walk_at "ab"
  refine ⟨count, far, rfl, c0, c1, f0, f1, fun fs e1 e2 => ?_⟩
  walk_at "ab"
  refine ⟨3, rfl, by omega, by omega, fun d d0 d1 => ?_⟩
  walk_at "ab"
  by_cases hd : d = 1
  · rw [if_pos (by simp [hd])]
    refine ⟨4, rfl, by omega, by omega, fun m m0 m1 => ?_⟩
    walk_at "ab"
    refine ⟨1 + m, rfl, by omega, by omega, fun r r0 r1 => ?_⟩
    walk_at "ab"
    exact q (.res fs [1 + m, r]) ⟨fs, e1, e2, .inr ⟨1 + m, r, rfl, by omega, by omega, by omega, by omega⟩⟩
  · rw [if_neg (by simp [hd])]
    refine ⟨21, rfl, by omega, by omega, fun m m0 m1 => ?_⟩
    walk_at "ab"
    exact q (.bel fs [m - 10]) ⟨fs, e1, e2, .inl ⟨m - 10, rfl, by omega, by omega⟩⟩
/-! ### _law_plain -/
/-! #### spread -/
/-! a line laid out by itself, its lines numbered from s on -/
def spreadL (g : Int → Nat → List Ln) (s : Int) : List Int → List Ln × List Int
  | [] => ([], [])
  | o :: os =>
    let A := g s o.toNat
    let r := spreadL g (s + (A.length : Nat)) os
    (A ++ r.1, (s + (A.length : Nat) - 1) :: r.2)
def spreadF (ls : List Ln) : Nat → Int → Nat → List Ln
  | 0, _, _ => []
  | f + 1, s, n => match ls[n]? with
    | some (.ref k os) => (spreadL (spreadF ls f) s os).1 ++ [.ref k (spreadL (spreadF ls f) s os).2]
    | some l => [l]
    | none => []
def spreadOf (ls : List Ln) (s : Int) (n : Nat) : List Ln := spreadF ls (n + 1) s n
theorem spreadL_congr {g h : Int → Nat → List Ln} : ∀ {os : List Int} {s : Int}, (∀ o ∈ os, ∀ s, g s o.toNat = h s o.toNat) → spreadL g s os = spreadL h s os
  | [], _, _ => rfl
  | o :: os, s, H => by
    simp only [spreadL, H o (List.mem_cons_self ..) s]
    rw [spreadL_congr (h := h) (s := s + ((h s o.toNat).length : Nat)) fun o ho => H o (by simp [ho])]
theorem spreadF_more {ls : List Ln} (h : okFrom 0 ls = true) : ∀ (f n : Nat) (s : Int), n < f → spreadF ls f s n = spreadOf ls s n
  | 0, n, s, hn => by omega
  | f + 1, n, s, hn => by
    unfold spreadOf
    rw [spreadF, spreadF]
    cases e : ls[n]? with
    | none => rfl
    | some l =>
      cases l with
      | ref k os =>
        have hk := (okL_ref (okFrom_at h e)).2
        have E : spreadL (spreadF ls f) s os = spreadL (spreadF ls n) s os := spreadL_congr fun o ho s' => by
          have := hk o ho
          rw [spreadF_more h f o.toNat s' (by omega)]
          by_cases hf : n < f
          · rw [spreadF_more h n o.toNat s' (by omega)]
          · have : f = n := by omega
            subst this
            rw [spreadF_more h f o.toNat s' (by omega)]
        simp only [E]
      | e => rfl
      | bel fs r => rfl
      | res fs r => rfl
      | und os => rfl
theorem spreadOf_ref {ls : List Ln} (h : okFrom 0 ls = true) {n : Nat} {k : RK} {os : List Int} (e : ls[n]? = some (.ref k os)) (s : Int) : spreadOf ls s n = (spreadL (spreadOf ls) s os).1 ++ [.ref k (spreadL (spreadOf ls) s os).2] := by
  have hk := (okL_ref (okFrom_at h e)).2
  have E : spreadL (spreadF ls n) s os = spreadL (spreadOf ls) s os := spreadL_congr fun o ho s' => by
    have := hk o ho
    exact spreadF_more h n o.toNat s' (by omega)
  show spreadF ls (n + 1) s n = _
  rw [spreadF, e]
  simp only [E]
theorem spreadOf_leaf {ls : List Ln} {n : Nat} {l : Ln} (e : ls[n]? = some l) (hl : ∀ k os, l ≠ .ref k os) (s : Int) : spreadOf ls s n = [l] := by
  show spreadF ls (n + 1) s n = _
  rw [spreadF, e]
  cases l with
  | ref k os => exact absurd rfl (hl k os)
  | _ => rfl
theorem spreadL_snoc {g : Int → Nat → List Ln} : ∀ (os : List Int) (s o : Int), spreadL g s (os ++ [o]) = ((spreadL g s os).1 ++ g (s + ((spreadL g s os).1.length : Nat)) o.toNat, (spreadL g s os).2 ++ [s + ((spreadL g s os).1.length : Nat) + ((g (s + ((spreadL g s os).1.length : Nat)) o.toNat).length : Nat) - 1])
  | [], s, o => by simp [spreadL]
  | x :: os, s, o => by
    rw [List.cons_append, spreadL, spreadL_snoc os (s + ((g s x.toNat).length : Nat)) o]
    simp only [spreadL, List.length_append, List.append_assoc, List.cons_append]
    have : s + ((g s x.toNat).length : Int) + ((spreadL g (s + ((g s x.toNat).length : Int)) os).1.length : Int) = s + (((g s x.toNat).length + (spreadL g (s + ((g s x.toNat).length : Int)) os).1.length : Nat) : Int) := by omega
    rw [this]
theorem spreadL_len {g : Int → Nat → List Ln} : ∀ (os : List Int) (s : Int), (spreadL g s os).2.length = os.length
  | [], s => rfl
  | x :: os, s => by
    simp only [spreadL, List.length_cons]
    rw [spreadL_len os]
/-- what a right line is -/
theorem okF_iff {fs : List Int} (h : okF fs = true) : fs.length ≤ 6 ∧ ∀ f ∈ fs, -9 ≤ f ∧ f ≤ 9 := by
  unfold okF at h
  simp only [Bool.and_eq_true, decide_eq_true_eq, List.all_eq_true] at h
  exact h
theorem okL_bel {n : Int} {fs r : List Int} (h : okL n (.bel fs r) = true) : fs.length ≤ 6 ∧ (∀ f ∈ fs, -9 ≤ f ∧ f ≤ 9) ∧ ∃ c, r = [c] ∧ -99 ≤ c ∧ c ≤ 99 := by
  match r, h with
  | [c], h =>
    simp only [okL, Bool.and_eq_true, decide_eq_true_eq] at h
    obtain ⟨h1, h2, h3⟩ := h
    exact ⟨(okF_iff h1).1, (okF_iff h1).2, c, rfl, h2, h3⟩
  | [], h => simp [okL] at h
  | _ :: _ :: _, h => simp [okL] at h
theorem okL_res {n : Int} {fs r : List Int} (h : okL n (.res fs r) = true) : fs.length ≤ 6 ∧ (∀ f ∈ fs, -9 ≤ f ∧ f ≤ 9) ∧ ∃ m c, r = [m, c] ∧ 1 ≤ m ∧ m ≤ 12 ∧ 0 ≤ c ∧ c < m := by
  match r, h with
  | [m, c], h =>
    simp only [okL, Bool.and_eq_true, decide_eq_true_eq] at h
    obtain ⟨h1, ⟨h2, h3⟩, h4, h5⟩ := h
    exact ⟨(okF_iff h1).1, (okF_iff h1).2, m, c, rfl, h2, h3, h4, h5⟩
  | [], h => simp [okL] at h
  | [_], h => simp [okL] at h
  | _ :: _ :: _ :: _, h => simp [okL] at h
theorem okL_small {n : Int} {l : Ln} (h : okL n l = true) : SmallL l := by
  cases l with
  | e => simp [okL] at h
  | und os => simp [okL] at h
  | ref k os => exact trivial
  | bel fs r =>
    obtain ⟨h1, h2, c, rfl, h3, h4⟩ := okL_bel h
    exact ⟨fun f hf => by have := h2 f hf; omega, by omega, c, rfl, by omega, by omega⟩
  | res fs r =>
    obtain ⟨h1, h2, m, c, rfl, h3, h4, h5, h6⟩ := okL_res h
    exact ⟨fun f hf => by have := h2 f hf; omega, by omega, m, c, rfl, by omega, by omega, by omega, by omega⟩
theorem okFrom_small {ls : List Ln} (h : okFrom 0 ls = true) : ∀ l ∈ ls, SmallL l := fun l hl => by
  obtain ⟨i, hi, e⟩ := List.getElem_of_mem hl
  exact okL_small (okFrom_at h (List.getElem?_eq_some_iff.mpr ⟨hi, e⟩))
theorem spreadL_le {g : Int → Nat → List Ln} : ∀ (as bs : List Int) (s : Int), (spreadL g s as).1.length ≤ (spreadL g s (as ++ bs)).1.length
  | [], bs, s => by simp [spreadL]
  | a :: as, bs, s => by
    rw [List.cons_append]
    simp only [spreadL, List.length_append]
    have := spreadL_le (g := g) as bs (s + ((g s a.toNat).length : Int))
    omega
/-- a line's numbers, moved -/
def shiftN (d : Int) : Ln → Ln
  | .ref k os => .ref k (os.map fun o => d + o)
  | l => l
theorem spreadL_shift {g : Int → Nat → List Ln} (hg : ∀ n s d, g (s + d) n = (g s n).map (shiftN d)) : ∀ (os : List Int) (s d : Int), spreadL g (s + d) os = ((spreadL g s os).1.map (shiftN d), (spreadL g s os).2.map fun o => d + o)
  | [], s, d => rfl
  | o :: os, s, d => by
    have ih := spreadL_shift hg os (s + ((g s o.toNat).length : Int)) d
    simp only [spreadL, hg o.toNat s d, List.length_map, List.map_append, List.map_cons]
    rw [show s + d + ((g s o.toNat).length : Int) = s + ((g s o.toNat).length : Int) + d by omega, ih]
    simp
    omega
theorem spreadF_shift {ls : List Ln} : ∀ (f n : Nat) (s d : Int), spreadF ls f (s + d) n = (spreadF ls f s n).map (shiftN d)
  | 0, _, _, _ => rfl
  | f + 1, n, s, d => by
    rw [spreadF, spreadF]
    cases e : ls[n]? with
    | none => rfl
    | some l =>
      cases l with
      | ref k os => simp only [spreadL_shift (fun n s d => spreadF_shift f n s d) os s d, List.map_append, List.map_cons, List.map_nil, shiftN]
      | e => rfl
      | bel fs r => rfl
      | res fs r => rfl
      | und os => rfl
theorem spreadOf_shift {ls : List Ln} (n : Nat) (s : Int) : spreadOf ls s n = (spreadOf ls 0 n).map (shiftN s) := by
  have := spreadF_shift (ls := ls) (n + 1) n 0 s
  rw [Int.zero_add] at this
  exact this
/-- lines of the right kinds -/
def isR : Ln → Bool
  | .e => false
  | .und _ => false
  | .ref _ os => decide (os.length ≤ 2)
  | _ => true
theorem okL_isR {n : Int} {l : Ln} (h : okL n l = true) : isR l = true := by
  cases l with
  | e => simp [okL] at h
  | und os => simp [okL] at h
  | ref k os =>
    have := (okL_ref h).1
    unfold isR
    rw [decide_eq_true_eq, this]
    cases k <;> decide
  | bel fs r => rfl
  | res fs r => rfl
theorem spreadL_isR {g : Int → Nat → List Ln} : ∀ {os : List Int} {s : Int}, (∀ o ∈ os, ∀ s, (g s o.toNat).all isR = true) → (spreadL g s os).1.all isR = true
  | [], _, _ => rfl
  | o :: os, s, h => by
    simp only [spreadL, List.all_append, Bool.and_eq_true]
    exact ⟨h o (by simp) s, spreadL_isR fun o ho => h o (by simp [ho])⟩
theorem spreadF_isR {ls : List Ln} (ok : okFrom 0 ls = true) : ∀ (f n : Nat) (s : Int), (spreadF ls f s n).all isR = true
  | 0, _, _ => rfl
  | f + 1, n, s => by
    rw [spreadF]
    cases e : ls[n]? with
    | none => rfl
    | some l =>
      have hl := okL_isR (okFrom_at ok e)
      cases l with
      | ref k os =>
        simp only [List.all_append, List.all_cons, List.all_nil, isR, Bool.and_true, spreadL_len, Bool.and_eq_true]
        exact ⟨spreadL_isR fun o _ s => spreadF_isR ok f o.toNat s, hl⟩
      | e => cases hl
      | und os => cases hl
      | bel fs r => rfl
      | res fs r => rfl
/-! #### numw -/
/-! the words of small numbers -/
def numC (z : Int) : Bool := knownW (numW z) && !decide (numW z = ";") && goodW (digsOf (numW z)) && !leadW (numW z) (digsOf (numW z)) && decide (PySem.intText? (numW z) = some z) && decide ((numW z).length ≤ 3) && !decide (32 ∈ TL.tl (numW z)) && PyData.strOk (numW z)
theorem numC_all : ∀ i : Fin 199, numC ((i.val : Int) - 99) = true := by decide +kernel
theorem numC_of {z : Int} (h : -99 ≤ z) (k : z ≤ 99) : numC z = true := by
  have := numC_all ⟨(z + 99).toNat, by omega⟩
  rw [show (((z + 99).toNat : Nat) : Int) - 99 = z by omega] at this
  exact this
theorem numW_known {z : Int} (h : -99 ≤ z) (k : z ≤ 99) : knownW (numW z) = true ∧ numW z ≠ ";" ∧ (numW z).length ≤ 3 := by
  have := numC_of h k
  unfold numC at this
  simp only [Bool.and_eq_true, Bool.not_eq_true', decide_eq_true_eq, decide_eq_false_iff_not] at this
  obtain ⟨⟨⟨⟨⟨⟨⟨h1, h2⟩, _⟩, _⟩, _⟩, h3⟩, _⟩, _⟩ := this
  exact ⟨h1, h2, h3⟩
theorem numOf_numW {z lo hi : Int} (h : -99 ≤ z) (k : z ≤ 99) (l : lo ≤ z) (u : z ≤ hi) : numOf (numW z) lo hi = some z := by
  have := numC_of h k
  unfold numC at this
  simp only [Bool.and_eq_true, Bool.not_eq_true', decide_eq_true_eq, decide_eq_false_iff_not] at this
  obtain ⟨⟨⟨⟨⟨⟨⟨_, _⟩, h1⟩, h2⟩, h3⟩, _⟩, _⟩, _⟩ := this
  unfold numOf
  rw [h1, h2, h3]
  simp [l, u]
/-- a word as written: short, without a blank -/
def fineW (z : Str) : Prop := z.length ≤ 5 ∧ 32 ∉ TL.tl z ∧ PyData.strOk z = true
theorem numW_fine {z : Int} (h : -99 ≤ z) (k : z ≤ 99) : fineW (numW z) := by
  have := numC_of h k
  unfold numC at this
  simp only [Bool.and_eq_true, Bool.not_eq_true', decide_eq_true_eq, decide_eq_false_iff_not] at this
  obtain ⟨⟨⟨_, h3⟩, h4⟩, h5⟩ := this
  exact ⟨by omega, h4, h5⟩
theorem fine_below : fineW "below" := ⟨by decide, by decide +kernel, by decide +kernel⟩
theorem fine_rest : fineW "rest" := ⟨by decide, by decide +kernel, by decide +kernel⟩
theorem fine_semi : fineW ";" := ⟨by decide, by decide +kernel, by decide +kernel⟩
theorem fine_kind (k : RK) : fineW k.name := by cases k <;> exact ⟨by decide, by decide +kernel, by decide +kernel⟩
/-! #### sprd2 -/
/-! the laid out line, read again: right, with the same words -/
theorem okRefs {g : Int → Nat → List Ln} : ∀ {os : List Int} {s : Int}, 0 ≤ s → (∀ o ∈ os, ∀ s, 0 ≤ s → okFrom s (g s o.toNat) = true ∧ 1 ≤ (g s o.toNat).length) → okFrom s (spreadL g s os).1 = true ∧ ∀ o ∈ (spreadL g s os).2, 0 ≤ o ∧ o < s + ((spreadL g s os).1.length : Nat)
  | [], s, _, _ => ⟨rfl, by simp [spreadL]⟩
  | o :: os, s, h0, h => by
    obtain ⟨h1, h2⟩ := h o (by simp) s h0
    obtain ⟨i1, i2⟩ := okRefs (g := g) (os := os) (s := s + ((g s o.toNat).length : Nat)) (by omega) fun o ho => h o (by simp [ho])
    simp only [spreadL]
    refine ⟨by rw [okFrom_app, h1, i1]; rfl, fun x hx => ?_⟩
    rw [List.length_append]
    rcases List.mem_cons.mp hx with e | e
    · subst e
      omega
    · have := i2 x e
      omega
theorem okSpread {ls : List Ln} (ok : okFrom 0 ls = true) : ∀ (f n : Nat) (s : Int), n < f → n < ls.length → 0 ≤ s → okFrom s (spreadOf ls s n) = true ∧ 1 ≤ (spreadOf ls s n).length
  | 0, n, s, h, _, _ => by omega
  | f + 1, n, s, hf, hn, hs => by
    obtain ⟨l, el⟩ : ∃ l, ls[n]? = some l := ⟨ls[n], List.getElem?_eq_getElem hn⟩
    have okl := okFrom_at ok el
    by_cases hr : ∃ k os, l = .ref k os
    · obtain ⟨k, os, rfl⟩ := hr
      have hos := okL_ref okl
      rw [spreadOf_ref ok el]
      obtain ⟨i1, i2⟩ := okRefs (g := spreadOf ls) (os := os) hs fun o ho s hs => by
        have := hos.2 o ho
        exact okSpread ok f o.toNat s (by omega) (by omega) hs
      refine ⟨?_, by simp⟩
      rw [okFrom_app, i1, okFrom, okFrom]
      simp only [okL, spreadL_len, hos.1, decide_true, Bool.true_and, Bool.and_true, List.all_eq_true, Bool.and_eq_true, decide_eq_true_eq]
      exact i2
    · have hl : ∀ k os, l ≠ .ref k os := fun k os z => hr ⟨k, os, z⟩
      rw [spreadOf_leaf el hl]
      refine ⟨?_, by simp⟩
      rw [okFrom, okFrom, Bool.and_true]
      cases l with
      | ref k os => exact absurd rfl (hl k os)
      | e => simp [okL] at okl
      | und os => simp [okL] at okl
      | bel fs r =>
        obtain ⟨_, _, c, rfl, _⟩ := okL_bel okl
        exact okl
      | res fs r =>
        obtain ⟨_, _, c, d, rfl, _⟩ := okL_res okl
        exact okl
theorem wordsL {ls M : List Ln} {g : Int → Nat → List Ln} : ∀ {os : List Int} {s : Nat}, (∀ o ∈ os, ∀ s : Nat, 1 ≤ (g s o.toNat).length ∧ ((∀ i x, (g s o.toNat)[i]? = some x → M[s + i]? = some x) → wordsOf M (s + (g s o.toNat).length - 1) = wordsOf ls o.toNat)) →
    (∀ i x, (spreadL g s os).1[i]? = some x → M[s + i]? = some x) → ((spreadL g s os).2.flatMap fun o => wordsOf M o.toNat) = os.flatMap fun o => wordsOf ls o.toNat
  | [], _, _, _ => rfl
  | o :: os, s, h, hM => by
    obtain ⟨h1, h2⟩ := h o (by simp) s
    simp only [spreadL] at hM ⊢
    rw [List.flatMap_cons, List.flatMap_cons]
    have e1 : ((s : Int) + ((g s o.toNat).length : Nat) - 1).toNat = s + (g s o.toNat).length - 1 := by omega
    have e2 : (s : Int) + ((g s o.toNat).length : Nat) = ((s + (g s o.toNat).length : Nat) : Int) := by omega
    rw [e1, h2 fun i x hx => hM i x (by rw [List.getElem?_append_left (List.getElem?_eq_some_iff.mp hx).1]; exact hx)]
    congr 1
    rw [e2]
    refine wordsL (fun o ho => h o (by simp [ho])) fun i x hx => ?_
    rw [e2] at hM
    have := hM ((g s o.toNat).length + i) x (by rw [List.getElem?_append_right (by omega), Nat.add_sub_cancel_left]; exact hx)
    rw [Nat.add_assoc]
    exact this
theorem wordsSpread {ls M : List Ln} (ok : okFrom 0 ls = true) (okM : okFrom 0 M = true) : ∀ (f n s : Nat), n < f → n < ls.length → (∀ i x, (spreadOf ls s n)[i]? = some x → M[s + i]? = some x) → wordsOf M (s + (spreadOf ls s n).length - 1) = wordsOf ls n
  | 0, n, s, h, _, _ => by omega
  | f + 1, n, s, hf, hn, hM => by
    obtain ⟨l, el⟩ : ∃ l, ls[n]? = some l := ⟨ls[n], List.getElem?_eq_getElem hn⟩
    have okl := okFrom_at ok el
    by_cases hr : ∃ k os, l = .ref k os
    · obtain ⟨k, os, rfl⟩ := hr
      have hos := okL_ref okl
      rw [spreadOf_ref ok el] at hM ⊢
      have eM : M[s + (spreadL (spreadOf ls) s os).1.length]? = some (.ref k (spreadL (spreadOf ls) s os).2) := hM _ _ (by rw [List.getElem?_append_right (Nat.le_refl _)]; simp)
      have el2 : s + ((spreadL (spreadOf ls) s os).1 ++ [Ln.ref k (spreadL (spreadOf ls) s os).2]).length - 1 = s + (spreadL (spreadOf ls) s os).1.length := by
        rw [List.length_append, List.length_singleton]
        omega
      rw [el2, wordsOf_ref okM eM, wordsOf_ref ok el]
      congr 1
      refine wordsL (fun o ho s => ?_) fun i x hx => hM i x (by rw [List.getElem?_append_left (List.getElem?_eq_some_iff.mp hx).1]; exact hx)
      have := hos.2 o ho
      exact ⟨(okSpread ok (o.toNat + 1) o.toNat s (by omega) (by omega) (by omega)).2, fun h => wordsSpread ok okM f o.toNat s (by omega) (by omega) h⟩
    · have hl : ∀ k os, l ≠ .ref k os := fun k os z => hr ⟨k, os, z⟩
      rw [spreadOf_leaf el hl] at hM ⊢
      have eM := hM 0 l rfl
      rw [Nat.add_zero] at eM
      show wordsOf M (s + 1 - 1) = _
      rw [Nat.add_sub_cancel]
      unfold wordsOf
      rw [wordsF_one eM, wordsF_one el]
      cases l with
      | ref k os => exact absurd rfl (hl k os)
      | _ => rfl
/-- the laid out line by itself -/
theorem spread_again {ls : List Ln} (ok : okFrom 0 ls = true) {n : Nat} (hn : n < ls.length) : okFrom 0 (spreadOf ls 0 n) = true ∧ 1 ≤ (spreadOf ls 0 n).length ∧ wordsOf (spreadOf ls 0 n) ((spreadOf ls 0 n).length - 1) = wordsOf ls n := by
  obtain ⟨h1, h2⟩ := okSpread ok (n + 1) n 0 (by omega) hn (by omega)
  refine ⟨h1, h2, ?_⟩
  have := wordsSpread ok h1 (n + 1) n 0 (by omega) hn (fun i x hx => by rw [Nat.zero_add]; exact hx)
  rw [Nat.zero_add] at this
  exact this
/-- few words a line -/
theorem wordsLLen {ls : List Ln} {g : Int → Nat → List Ln} : ∀ {os : List Int} {s : Int}, (∀ o ∈ os, ∀ s, (wordsOf ls o.toNat).length ≤ 10 * (g s o.toNat).length) → (os.flatMap fun o => wordsOf ls o.toNat).length ≤ 10 * (spreadL g s os).1.length
  | [], _, _ => by simp
  | o :: os, s, h => by
    simp only [spreadL]
    rw [List.flatMap_cons, List.length_append, List.length_append]
    have h1 := h o (by simp) s
    have h2 := wordsLLen (g := g) (os := os) (s := s + ((g s o.toNat).length : Nat)) fun o ho => h o (by simp [ho])
    omega
theorem wordsLen {ls : List Ln} (ok : okFrom 0 ls = true) : ∀ (f n : Nat) (s : Int), n < f → n < ls.length → (wordsOf ls n).length ≤ 10 * (spreadOf ls s n).length
  | 0, n, s, h, _ => by omega
  | f + 1, n, s, hf, hn => by
    obtain ⟨l, el⟩ : ∃ l, ls[n]? = some l := ⟨ls[n], List.getElem?_eq_getElem hn⟩
    have okl := okFrom_at ok el
    by_cases hr : ∃ k os, l = .ref k os
    · obtain ⟨k, os, rfl⟩ := hr
      have hos := okL_ref okl
      rw [spreadOf_ref ok el, wordsOf_ref ok el, List.length_cons, List.length_append, List.length_singleton]
      have := wordsLLen (ls := ls) (g := spreadOf ls) (os := os) (s := s) fun o ho s => by
        have := hos.2 o ho
        exact wordsLen ok f o.toNat s (by omega) (by omega)
      omega
    · have hl : ∀ k os, l ≠ .ref k os := fun k os z => hr ⟨k, os, z⟩
      rw [spreadOf_leaf el hl]
      unfold wordsOf
      rw [wordsF_one el]
      cases l with
      | ref k os => exact absurd rfl (hl k os)
      | e => simp [okL] at okl
      | und os => simp [okL] at okl
      | bel fs r =>
        obtain ⟨h1, _, c, rfl, _⟩ := okL_bel okl
        simp [lineW]
        omega
      | res fs r =>
        obtain ⟨h1, _, c, d, rfl, _⟩ := okL_res okl
        simp [lineW]
        omega
theorem words_fine {ls : List Ln} (ok : okFrom 0 ls = true) : ∀ (f n : Nat), n < f → n < ls.length → ∀ z ∈ wordsOf ls n, fineW z
  | 0, n, h, _ => by omega
  | f + 1, n, hf, hn => by
    obtain ⟨l, el⟩ : ∃ l, ls[n]? = some l := ⟨ls[n], List.getElem?_eq_getElem hn⟩
    have okl := okFrom_at ok el
    by_cases hr : ∃ k os, l = .ref k os
    · obtain ⟨k, os, rfl⟩ := hr
      have hos := okL_ref okl
      rw [wordsOf_ref ok el]
      intro z hz
      rcases List.mem_cons.mp hz with e | e
      · rw [e]
        exact fine_kind k
      · obtain ⟨o, ho, hz⟩ := List.mem_flatMap.mp e
        have := hos.2 o ho
        exact words_fine ok f o.toNat (by omega) (by omega) z hz
    · have hl : ∀ k os, l ≠ .ref k os := fun k os z => hr ⟨k, os, z⟩
      unfold wordsOf
      rw [wordsF_one el]
      have row : ∀ xs : List Int, (∀ x ∈ xs, -99 ≤ x ∧ x ≤ 99) → ∀ z ∈ xs.map numW, fineW z := fun xs h z hz => by
        obtain ⟨x, hx, rfl⟩ := List.mem_map.mp hz
        exact numW_fine (h x hx).1 (h x hx).2
      have both : ∀ (nm : Str) (fs r : List Int), fineW nm → (∀ x ∈ fs, -99 ≤ x ∧ x ≤ 99) → (∀ x ∈ r, -99 ≤ x ∧ x ≤ 99) → ∀ z ∈ nm :: (fs.map numW ++ (";" : Str) :: r.map numW), fineW z := fun nm fs r h0 h1 h2 z hz => by
        rcases List.mem_cons.mp hz with e | e
        · rw [e]; exact h0
        · rcases List.mem_append.mp e with e | e
          · exact row fs h1 z e
          · rcases List.mem_cons.mp e with e | e
            · rw [e]; exact fine_semi
            · exact row r h2 z e
      cases l with
      | ref k os => exact absurd rfl (hl k os)
      | e => simp [okL] at okl
      | und os => simp [okL] at okl
      | bel fs r =>
        obtain ⟨_, h2, c, rfl, h3⟩ := okL_bel okl
        exact both _ fs [c] fine_below (fun x hx => by have := h2 x hx; omega) (by simpa using h3)
      | res fs r =>
        obtain ⟨_, h2, c, d, rfl, h3⟩ := okL_res okl
        exact both _ fs [c, d] fine_rest (fun x hx => by have := h2 x hx; omega) (by intro x hx; simp at hx; rcases hx with e | e <;> subst e <;> omega)
/-! #### tsz -/
/-! how many lines a line laid out by itself has -/
def tsz (ls : List Ln) (n : Nat) : Nat := (spreadOf ls 0 n).length
theorem spreadLen (ls : List Ln) (s : Int) (n : Nat) : (spreadOf ls s n).length = tsz ls n := by
  unfold tsz
  rw [spreadOf_shift, List.length_map]
theorem spreadF_app {ls ms : List Ln} (ok : okFrom 0 ls = true) : ∀ (f n : Nat) (s : Int), n < ls.length → spreadF (ls ++ ms) f s n = spreadF ls f s n
  | 0, _, _, _ => rfl
  | f + 1, n, s, hn => by
    rw [spreadF, spreadF, List.getElem?_append_left hn]
    obtain ⟨l, el⟩ : ∃ l, ls[n]? = some l := ⟨ls[n], List.getElem?_eq_getElem hn⟩
    rw [el]
    cases l with
    | ref k os =>
      have hos := okL_ref (okFrom_at ok el)
      have E : spreadL (spreadF (ls ++ ms) f) s os = spreadL (spreadF ls f) s os := spreadL_congr fun o ho s' => by
        have := hos.2 o ho
        exact spreadF_app ok f o.toNat s' (by omega)
      simp only [E]
    | _ => rfl
theorem tsz_app {ls ms : List Ln} (ok : okFrom 0 ls = true) {n : Nat} (hn : n < ls.length) : tsz (ls ++ ms) n = tsz ls n := by
  unfold tsz spreadOf
  rw [spreadF_app ok _ _ _ hn]
theorem at_last {ls : List Ln} {l : Ln} : (ls ++ [l])[ls.length]? = some l := by simp
theorem tsz_leaf {ls : List Ln} {l : Ln} (hl : ∀ k os, l ≠ .ref k os) : tsz (ls ++ [l]) ls.length = 1 := by
  unfold tsz
  rw [spreadOf_leaf at_last hl]
  rfl
theorem tsz_ref1 {ls : List Ln} {k : RK} {x : Int} (ok : okFrom 0 ls = true) (ok2 : okFrom 0 (ls ++ [.ref k [x]]) = true) (h : x.toNat < ls.length) : tsz (ls ++ [.ref k [x]]) ls.length = tsz ls x.toNat + 1 := by
  have : tsz (ls ++ [.ref k [x]]) ls.length = _ := congrArg List.length (spreadOf_ref ok2 at_last 0)
  rw [this]
  simp only [spreadL, List.length_append, List.length_singleton, List.length_nil, spreadLen, tsz_app ok h]
theorem tsz_ref2 {ls : List Ln} {k : RK} {x y : Int} (ok : okFrom 0 ls = true) (ok2 : okFrom 0 (ls ++ [.ref k [x, y]]) = true) (h : x.toNat < ls.length) (g : y.toNat < ls.length) : tsz (ls ++ [.ref k [x, y]]) ls.length = tsz ls x.toNat + tsz ls y.toNat + 1 := by
  have : tsz (ls ++ [.ref k [x, y]]) ls.length = _ := congrArg List.length (spreadOf_ref ok2 at_last 0)
  rw [this]
  simp only [spreadL, List.length_append, List.length_singleton, List.length_nil, spreadLen, tsz_app ok h, tsz_app ok g]
  omega
/-- lines that are right, each laid out in at most b lines, the i-th in at most i + 1 + c -/
structure SayT (ls : List Ln) (c : Nat) : Prop where
  ok : okFrom 0 ls = true
  ne : 1 ≤ ls.length
  t : ∀ n, n < ls.length → tsz ls n ≤ n + 1 + c
theorem SayT.leaf {ls : List Ln} {c : Nat} (h : SayT ls c) {l : Ln} (k : okL (ls.length : Nat) l = true) (hl : ∀ k os, l ≠ .ref k os) : SayT (ls ++ [l]) c ∧ tsz (ls ++ [l]) ls.length = 1 := by
  refine ⟨⟨by rw [okFrom_app, h.ok, Int.zero_add, okFrom, k]; rfl, by rw [List.length_append]; have := h.ne; omega, fun n hn => ?_⟩, tsz_leaf hl⟩
  rw [List.length_append, List.length_singleton] at hn
  by_cases e : n < ls.length
  · rw [tsz_app h.ok e]; exact h.t n e
  · have : n = ls.length := by omega
    subst this
    rw [tsz_leaf hl]
    omega
theorem SayT.ref1 {ls : List Ln} {c : Nat} (h : SayT ls c) {k : RK} {x : Int} (h1 : k.n = 1) (x0 : 0 ≤ x) (x1 : x < (ls.length : Nat)) (hc : tsz ls x.toNat ≤ ls.length + c) : SayT (ls ++ [.ref k [x]]) c ∧ tsz (ls ++ [.ref k [x]]) ls.length = tsz ls x.toNat + 1 := by
  have ok2 : okFrom 0 (ls ++ [.ref k [x]]) = true := by rw [okFrom_app, h.ok, Int.zero_add, okFrom]; simp [okL, h1, x0, x1, okFrom]
  have e2 := tsz_ref1 h.ok ok2 (by omega)
  refine ⟨⟨ok2, by rw [List.length_append]; have := h.ne; omega, fun n hn => ?_⟩, e2⟩
  rw [List.length_append, List.length_singleton] at hn
  by_cases e : n < ls.length
  · rw [tsz_app h.ok e]; exact h.t n e
  · have : n = ls.length := by omega
    subst this
    rw [e2]
    omega
theorem SayT.ref2 {ls : List Ln} {c : Nat} (h : SayT ls c) {x y : Int} (x0 : 0 ≤ x) (x1 : x < (ls.length : Nat)) (y0 : 0 ≤ y) (y1 : y < (ls.length : Nat)) (hc : tsz ls x.toNat + tsz ls y.toNat ≤ ls.length + c) : SayT (ls ++ [.ref .bo [x, y]]) c ∧ tsz (ls ++ [.ref .bo [x, y]]) ls.length = tsz ls x.toNat + tsz ls y.toNat + 1 := by
  have ok2 : okFrom 0 (ls ++ [.ref .bo [x, y]]) = true := by rw [okFrom_app, h.ok, Int.zero_add, okFrom]; simp [okL, RK.n, x0, x1, y0, y1, okFrom]
  have e2 := tsz_ref2 h.ok ok2 (by omega) (by omega)
  refine ⟨⟨ok2, by rw [List.length_append]; have := h.ne; omega, fun n hn => ?_⟩, e2⟩
  rw [List.length_append, List.length_singleton] at hn
  by_cases e : n < ls.length
  · rw [tsz_app h.ok e]; exact h.t n e
  · have : n = ls.length := by omega
    subst this
    rw [e2]
    omega
theorem SayT.wide {ls : List Ln} {c d : Nat} (h : SayT ls c) (hd : c ≤ d) : SayT ls d := ⟨h.ok, h.ne, fun n hn => by have := h.t n hn; omega⟩
theorem AtomL.leaf {count far : Int} {l : Ln} (h : AtomL count far l) : ∀ k os, l ≠ .ref k os := by
  obtain ⟨fs, _, _, ⟨c, rfl, _⟩ | ⟨m, r, rfl, _⟩⟩ := h
  · exact fun k os z => by cases z
  · exact fun k os z => by cases z
def a_l_plain : Addr → Asp := fun st rs P => ∃ count many far : Int, rs = [.obj (isRef st), .dat (.int count), .dat (.int many), .dat (.int far)] ∧ 0 ≤ count ∧ count ≤ 6 ∧ 0 < many ∧ many ≤ 100 ∧ 0 ≤ far ∧ far ≤ 9 ∧ ∀ ls : List Ln, SayT ls 0 → (ls.length : Int) ≤ 4 * many → P (.dat (sayD ls))
set_option maxHeartbeats 8000000 in
theorem ok_l_plain (T : Txt P w K mg) : FnOk P w K mg base CX0 4 T.a_l_plain T.fd_l_plain ["_law_state", "_law_count", "_law_many", "_law_far"] (dSp K (T.Tb.map (·.1)) (drW K T.Tb) a_l_plain) := by
  refine def_draw (N := n_l_plain) (k := 3) T.F_l_plain sc_l_plain (by intro st rs R h; unfold a_l_plain at h; repeat (first | (obtain ⟨rfl, _⟩ := h; rfl) | (obtain ⟨_, h⟩ := h))) drOk (fun cdv A outer s H E st J hW hJ hr => ⟨_, (ss_cons (st_set 4 sc_l_plain.nd (ae_lst (aa_cons (ae_callD rfl hW (ok_l_atom T) (hr.mono (by decide)) (by rfl) T.m_l_atom T.F_l_atom.kp T.b_l_atom pass0 (aa_cons (ae_var 0) (aa_cons (ae_var 1) (aa_cons (ae_var 3) aa_nil)))) aa_nil)))
    (ss_cons (st_for PassesOwn.never rfl (ai_r1 (by rfl) T.z_range (ae_callD rfl hW (ok_l_draw T) (hr.mono (by decide)) (by rfl) T.m_l_draw T.F_l_draw.kp T.b_l_draw pass0 (aa_cons (ae_var 0) (aa_cons (ae_var 2) aa_nil)))) (ag_name 5 sc_l_plain.nd)
      (ss_cons (st_set 6 sc_l_plain.nd (ae_op oa_sub (ae_blt ka_len (by rfl) T.z_len bo_len (aa_cons (ae_var 4) aa_nil)) ae_int))
      (ss_cons (st_set 7 sc_l_plain.nd (ae_callD rfl hW (ok_l_draw T) (hr.mono (by decide)) (by rfl) T.m_l_draw T.F_l_draw.kp T.b_l_draw pass0 (aa_cons (ae_var 0) (aa_cons ae_int aa_nil))))
      (ss_cons (st_app (pl := pure true) 4 (ae_callD rfl hW (ok_l_atom T) (hr.mono (by decide)) (by rfl) T.m_l_atom T.F_l_atom.kp T.b_l_atom pass0 (aa_cons (ae_var 0) (aa_cons (ae_var 1) (aa_cons (ae_var 3) aa_nil)))) (pv 4) (hm := pe_bm PySem.F.plainAttrs_list PySem.F.slot_list_append PySem.F.type_list_append mt_append (pv 4) (pa_cons (ae_callD rfl hW (ok_l_atom T) (hr.mono (by decide)) (by rfl) T.m_l_atom T.F_l_atom.kp T.b_l_atom pass0 (aa_cons (ae_var 0) (aa_cons (ae_var 1) (aa_cons (ae_var 3) aa_nil)))).pe pa_nil)))
      (ss_cons (st_set 8 sc_l_plain.nd (ae_op oa_sub (ae_blt ka_len (by rfl) T.z_len bo_len (aa_cons (ae_var 4) aa_nil)) ae_int))
      (ss_cons (st_if (at_cmp (oa_eq hr.units) (ae_var 7) ae_int)
        (ss_cons (st_app (pl := pure true) 4 (ae_tup (aa_cons ae_str (aa_cons (ae_var 8) aa_nil))) (pv 4) (hm := pe_bm PySem.F.plainAttrs_list PySem.F.slot_list_append PySem.F.type_list_append mt_append (pv 4) (pa_cons (ae_tup (aa_cons ae_str (aa_cons (ae_var 8) aa_nil))).pe pa_nil)))
        (ss_one (st_set 8 sc_l_plain.nd (ae_op oa_sub (ae_blt ka_len (by rfl) T.z_len bo_len (aa_cons (ae_var 4) aa_nil)) ae_int))))
        ss_nil)
      (ss_cons (st_if (at_cmp (oa_eq hr.units) (ae_var 7) ae_int)
        (ss_cons (st_app (pl := pure true) 4 (ae_tup (aa_cons ae_str (aa_cons (ae_var 6) aa_nil))) (pv 4) (hm := pe_bm PySem.F.plainAttrs_list PySem.F.slot_list_append PySem.F.type_list_append mt_append (pv 4) (pa_cons (ae_tup (aa_cons ae_str (aa_cons (ae_var 6) aa_nil))).pe pa_nil)))
        (ss_one (st_set 6 sc_l_plain.nd (ae_op oa_sub (ae_blt ka_len (by rfl) T.z_len bo_len (aa_cons (ae_var 4) aa_nil)) ae_int))))
        ss_nil)
      (ss_cons (st_app (pl := pure true) 4 (ae_tup (aa_cons ae_str (aa_cons (ae_var 6) (aa_cons (ae_var 8) aa_nil)))) (pv 4) (hm := pe_bm PySem.F.plainAttrs_list PySem.F.slot_list_append PySem.F.type_list_append mt_append (pv 4) (pa_cons (ae_tup (aa_cons ae_str (aa_cons (ae_var 6) (aa_cons (ae_var 8) aa_nil)))).pe pa_nil)))
      (ss_one (st_if (PWa.t (aw_and (at_cmp oa_gt (ae_var 7) ae_int) (aw_and1 (at_cmp (oa_eq hr.units) (ae_callD rfl hW (ok_l_draw T) (hr.mono (by decide)) (by rfl) T.m_l_draw T.F_l_draw.kp T.b_l_draw pass0 (aa_cons (ae_var 0) (aa_cons ae_int aa_nil))) ae_int))))
        (ss_one (st_app (pl := pure true) 4 (ae_tup (aa_cons ae_str (aa_cons (ae_op oa_sub (ae_blt ka_len (by rfl) T.z_len bo_len (aa_cons (ae_var 4) aa_nil)) ae_int) aa_nil))) (pv 4) (hm := pe_bm PySem.F.plainAttrs_list PySem.F.slot_list_append PySem.F.type_list_append mt_append (pv 4) (pa_cons (ae_tup (aa_cons ae_str (aa_cons (ae_op oa_sub (ae_blt ka_len (by rfl) T.z_len bo_len (aa_cons (ae_var 4) aa_nil)) ae_int) aa_nil))).pe pa_nil))))
        ss_nil))))))))))
    (ss_one (st_ret (ae_ty ka_tuple (by rfl) T.z_tuple bo_tuple (aa_cons (ae_var 4) aa_nil)))))), fun rs R h => ?_⟩)
  obtain ⟨count, many, far, rfl, c0, c1, m0, m1, f0, f1, q⟩ := h
  walk_at "ab"
  refine ⟨count, far, rfl, by omega, by omega, by omega, by omega, fun l0 hl0 => ?_⟩
  walk_at "ab"
  refine ⟨many, rfl, by omega, by omega, fun d d0 d1 => ?_⟩
  walk_at "ab"
  refine ⟨by omega, by omega, fun i Γ => ∃ (ls : List Ln) (g5 g6 g7 g8 : Option G), Γ = [some (.obj (isRef st)), some (.dat (.int count)), some (.dat (.int many)), some (.dat (.int far)), some (.own (ls.map lnD)), g5, g6, g7, g8] ∧ SayT ls 0 ∧ ls.length ≤ 1 + 4 * i, ⟨[l0], none, none, none, none, rfl, ⟨by rw [okFrom, hl0.ok c1 f1]; rfl, by simp, fun n hn => by
      have e : n = 0 := by simpa using hn
      subst e
      have := tsz_leaf (ls := []) hl0.leaf
      rw [show tsz [l0] 0 = 1 from this]
      omega⟩, by simp⟩, ?_, ?_⟩
  · rintro i hi Γ ⟨ls, g5, g6, g7, g8, rfl, hp, hl⟩
    refine ⟨_, rfl, ?_⟩
    walk_at "ab"
    refine ⟨4, rfl, by omega, by omega, fun d d0 d1 => ?_⟩
    walk_at "ab"
    refine ⟨count, far, rfl, by omega, by omega, by omega, by omega, fun la hla => ?_⟩
    walk_at "ab"
    obtain ⟨ha, ta⟩ := hp.leaf (hla.ok c1 f1 _) hla.leaf
    have tp : tsz (ls ++ [la]) (ls.length - 1) ≤ ls.length := by
      have h1 := hp.ne
      rw [tsz_app hp.ok (by omega)]
      have := hp.t (ls.length - 1) (by omega)
      omega
    have e1 : ls.map lnD ++ [lnD la] = (ls ++ [la]).map lnD := by simp
    have n1 := hp.ne
    have l1 : (ls ++ [la]).length = ls.length + 1 := by simp
    rw [e1]
    generalize ls ++ [la] = la1 at *
    clear e1
    have tn1 : ((ls.length : Int) - 1).toNat = ls.length - 1 := by omega
    have tn2 : ((la1.length : Int) - 1).toNat = ls.length := by omega
    simp only [List.length_map]
    have push : ∀ (k : RK) (os : List Int) (xs : List Ln), xs.map lnD ++ [PyData.tuple (.str k.name :: os.map .int)] = (xs ++ [Ln.ref k os]).map lnD := fun k os xs => by simp [lnD]
    have pno : ∀ (x : Int) (xs : List Ln), xs.map lnD ++ [PyData.tuple [.str "not", .int x]] = (xs ++ [Ln.ref .no [x]]).map lnD := fun x xs => push .no [x] xs
    have pbo : ∀ (x y : Int) (xs : List Ln), xs.map lnD ++ [PyData.tuple [.str "both", .int x, .int y]] = (xs ++ [Ln.ref .bo [x, y]]).map lnD := fun x y xs => push .bo [x, y] xs
    simp only [pno, pbo, List.length_map]
    have len1 : ∀ (xs : List Ln) (x : Ln), (xs ++ [x]).length = xs.length + 1 := fun xs x => by simp
    rcases (show d = 0 ∨ d = 1 ∨ d = 2 ∨ d = 3 by omega) with e | e | e | e <;> subst e
    · refine ⟨size_ok (by omega), ?_⟩
      rw [if_pos (by decide)]
      refine ⟨size_ok (by (try simp only [len1]); omega), ?_⟩
      rw [if_neg (by decide)]
      refine ⟨size_ok (by (try simp only [len1]); omega), ?_⟩
      rw [if_neg (by decide)]
      obtain ⟨hb, tb⟩ := ha.ref1 (k := .no) (x := (la1.length : Int) - 1) rfl (by omega) (by omega) (by rw [tn2]; omega)
      have tb1 := tsz_app (ms := [.ref .no [(la1.length : Int) - 1]]) ha.ok (show ls.length - 1 < la1.length by omega)
      have lb := len1 la1 (.ref .no [(la1.length : Int) - 1])
      have tn3 : (((la1 ++ [Ln.ref .no [(la1.length : Int) - 1]]).length : Int) - 1).toNat = la1.length := by omega
      rw [tn2] at tb
      exact ⟨_, ⟨_, _, _, _, rfl⟩, (hb.ref2 (by omega) (by omega) (by omega) (by omega) (by rw [tn1, tn3, tb, tb1]; omega)).1, by (try simp only [len1]); omega⟩
    · refine ⟨size_ok (by omega), ?_⟩
      rw [if_neg (by decide), if_pos (by decide)]
      refine ⟨size_ok (by (try simp only [len1]); omega), ?_⟩
      refine ⟨size_ok (by (try simp only [len1]); omega), ?_⟩
      rw [if_neg (by decide)]
      obtain ⟨hb, tb⟩ := ha.ref1 (k := .no) (x := (ls.length : Int) - 1) rfl (by omega) (by omega) (by rw [tn1]; omega)
      have tb1 := tsz_app (ms := [.ref .no [(ls.length : Int) - 1]]) ha.ok (show ls.length < la1.length by omega)
      have lb := len1 la1 (.ref .no [(ls.length : Int) - 1])
      have tn3 : (((la1 ++ [Ln.ref .no [(ls.length : Int) - 1]]).length : Int) - 1).toNat = la1.length := by omega
      rw [tn1] at tb
      exact ⟨_, ⟨_, _, _, _, rfl⟩, (hb.ref2 (by omega) (by omega) (by omega) (by omega) (by rw [tn2, tn3, tb, tb1]; omega)).1, by (try simp only [len1]); omega⟩
    all_goals
      refine ⟨size_ok (by omega), ?_⟩
      rw [if_neg (by decide), if_neg (by decide)]
      refine ⟨size_ok (by (try simp only [len1]); omega), ?_⟩
      rw [if_pos (by decide)]
      refine ⟨2, rfl, by omega, by omega, fun d' _ _ => ?_⟩
      obtain ⟨hb, tb⟩ := ha.ref2 (x := (ls.length : Int) - 1) (y := (la1.length : Int) - 1) (by omega) (by omega) (by omega) (by omega) (by rw [tn1, tn2]; omega)
      have lb := len1 la1 (.ref .bo [(ls.length : Int) - 1, (la1.length : Int) - 1])
      have tn3 : (((la1 ++ [Ln.ref .bo [(ls.length : Int) - 1, (la1.length : Int) - 1]]).length : Int) - 1).toNat = la1.length := by omega
      rw [tn1, tn2] at tb
      walk_at "ab"
      by_cases hd : d' = 1
      · rw [if_pos (by simp [hd])]
        refine ⟨size_ok (by (try simp only [len1]); omega), ?_⟩
        exact ⟨_, ⟨_, _, _, _, rfl⟩, (hb.ref1 (k := .no) rfl (by omega) (by omega) (by rw [tn3, tb]; omega)).1, by (try simp only [len1]); omega⟩
      · rw [if_neg (by simp [hd])]
        exact ⟨_, ⟨_, _, _, _, rfl⟩, hb, by (try simp only [len1]); omega⟩
  · rintro Γ ⟨ls, g5, g6, g7, g8, rfl, hp, hl⟩
    walk_at "ab"
    exact q ls hp (by omega)
/-! ### _law_words -/
def a_l_words (m : Nat) : Asp := fun rs P => ∃ (ls : List Ln) (n : Nat), rs = [.dat (sayD ls), .dat (.int (n : Int))] ∧ n < m ∧ n < ls.length ∧ okFrom 0 ls = true ∧ (∀ l ∈ ls, SmallL l) ∧ (∀ k, k ≤ n → (wordsOf ls k).length ≤ 20000) ∧ P (.new ((wordsOf ls n).map .str))
set_option maxHeartbeats 8000000 in
theorem ok_l_words (T : Txt P w K mg) : ∀ m : Nat, FnOk P w K mg base CX0 (2 + m) T.a_l_words T.fd_l_words ["_law_lines", "_law_number"] (pSp K (a_l_words m))
  | 0 => fn_none fun vs H Q E ⟨rs, R, _, h, _⟩ => by
    unfold a_l_words at h
    obtain ⟨ls, n, _, h, _⟩ := h
    omega
  | m + 1 => by
    refine def_pure (N := n_l_words) (k := 2 + m) T.F_l_words sc_l_words (by intro rs R h; unfold a_l_words at h; repeat (first | (obtain ⟨rfl, _⟩ := h; rfl) | (obtain ⟨_, h⟩ := h))) (fun cdv A outer s H E hr => ⟨_, (ss_cons (st_set 2 sc_l_words.nd (ae_ix (ae_var 0) (ae_var 1)))
      (ss_cons (st_if (at_cmp (oa_in (units65 hr)) (ae_ix (ae_var 2) ae_int) (ae_lst (aa_cons ae_str (aa_cons ae_str aa_nil))))
        (ss_one (st_ret (ae_op oa_add (ae_op oa_add (ae_op oa_add (ae_lst (aa_cons (ae_ix (ae_var 2) ae_int) aa_nil)) (ae_lc (own := [("_law_one", 5)]) rfl sc_l_words.nd (ai_seq (ae_ix (ae_var 2) ae_int)) (blkOk_by (N := n_l_words) (sc := defScope s_l_words) (by decide +kernel)) (fun _ _ _ _ _ => (ag_name 5 sc_l_words.nd)) (fun _ _ _ _ _ => ats_nil) (fun _ _ _ _ _ => (ae_ty ka_str (by rfl) T.z_str bo_str (aa_cons (ae_var 5) aa_nil))))) (ae_lst (aa_cons ae_str aa_nil))) (ae_lc (own := [("_law_one", 5)]) rfl sc_l_words.nd (ai_seq (ae_slice (ae_var 2) (ao_some ae_int) ao_none)) (blkOk_by (N := n_l_words) (sc := defScope s_l_words) (by decide +kernel)) (fun _ _ _ _ _ => (ag_name 5 sc_l_words.nd)) (fun _ _ _ _ _ => ats_nil) (fun _ _ _ _ _ => (ae_ty ka_str (by rfl) T.z_str bo_str (aa_cons (ae_var 5) aa_nil)))))))
        ss_nil)
      (ss_cons (st_set 3 sc_l_words.nd (ae_lst (aa_cons (ae_ix (ae_var 2) ae_int) aa_nil)))
      (ss_cons (st_for PassesOwn.never rfl (ai_seq (ae_slice (ae_var 2) (ao_some ae_int) ao_none)) (ag_name 4 sc_l_words.nd)
        (ss_one (st_set 3 sc_l_words.nd (ae_ownAdd 3 (pv 3) (ae_call (ok_l_words T m) hr (by rfl) T.m_l_words T.F_l_words.kp T.b_l_words pass0 (aa_cons (ae_var 0) (aa_cons (ae_var 4) aa_nil)))))))
      (ss_one (st_retO 3 (pv 3))))))), fun rs R h => ?_⟩)
    obtain ⟨ls, n, rfl, hm, hn, ok, sm, hw, q⟩ := h
    unfold sayD
    walk_at "ab"
    obtain ⟨l, el⟩ : ∃ l, ls[n]? = some l := ⟨ls[n], List.getElem?_eq_getElem hn⟩
    have hs := sm l (List.mem_of_getElem? el)
    refine ⟨lnD l, atI_map.mpr ⟨l, by rw [atI_pos (by omega) (by omega), Int.toNat_natCast]; exact el, rfl⟩, ?_⟩
    have row : ∀ (xs : List Int), (∀ x ∈ xs, -1000 ≤ x ∧ x ≤ 1000) → ∀ (i : Nat) (x : Int), xs[i]? = some x → x.natAbs.log2 < 1920 := fun xs h i x e => by
      have hx := h x (List.mem_of_getElem? e)
      by_cases z : x.natAbs = 0
      · rw [z]; decide
      · exact (Nat.log2_lt z).mpr (Nat.lt_of_le_of_lt (show x.natAbs ≤ 1000 by omega) (Nat.lt_of_lt_of_le (show 1000 < 2 ^ 10 by decide) (Nat.pow_le_pow_right (by decide) (by decide))))
    have comp : ∀ (xs : List Int) (i : Nat) (x : Int), xs[i]? = some x → ((xs.take i).map numW).map PyData.str ++ [.str (numW x)] = ((xs.take (i + 1)).map numW).map .str := fun xs i x e => by
      rw [List.take_add_one, e, Option.toList_some, List.map_append, List.map_append]
      rfl
    cases l with
    | e => exact hs.elim
    | und os => exact hs.elim
    | bel fs r =>
      obtain ⟨h1, h2, c, rfl, c0, c1⟩ := hs
      have ew : wordsOf ls n = ("below" : Str) :: (fs.map numW ++ (";" : Str) :: [numW c]) := by unfold wordsOf; rw [wordsF_one el]; rfl
      rw [show lnD (.bel fs [c]) = .tuple [.str "below", .tuple (fs.map .int), .int c] from rfl]
      walk_at "ab"
      refine ⟨sh_ok ok_below, sh_two, ?_⟩
      rw [two_b, if_pos rfl]
      obtain ⟨cs, ecs⟩ : ∃ cs, cs = [c] := ⟨_, rfl⟩
      have lcs : cs.length = 1 := by rw [ecs]; rfl
      rw [show Ab.cutD [PyData.str "below", PyData.tuple (fs.map PyData.int), PyData.int c] (some 2) none = cs.map PyData.int by rw [cutD_from (by omega), ecs]; rfl]
      walk_at "ab"
      refine ⟨fun i acc => acc = ((fs.take i).map numW).map .str, rfl, ?_, ?_⟩
      · intro i x hx acc e
        subst e
        refine ⟨row fs h1 i x hx, size_ok (by rw [List.length_map, List.length_map, List.length_take]; omega), comp fs i x hx⟩
      · intro acc e
        subst e
        rw [List.take_of_length_le (Nat.le_refl _)]
        have lf : ((fs.map numW).map PyData.str).length ≤ 10 := by rw [List.length_map, List.length_map]; exact h2
        refine ⟨size_le (by omega), size_le (by simp; omega), fun i acc => acc = ((cs.take i).map numW).map .str, rfl, ?_, ?_⟩
        · intro i x hx acc e
          subst e
          refine ⟨row cs (by rw [ecs]; simpa using ⟨c0, c1⟩) i x hx, size_ok (by rw [List.length_map, List.length_map, List.length_take]; omega), comp cs i x hx⟩
        · intro acc e
          subst e
          rw [List.take_of_length_le (Nat.le_refl _)]
          have lc : ((cs.map numW).map PyData.str).length ≤ 2 := by rw [List.length_map, List.length_map]; omega
          refine ⟨size_le (by simp only [List.length_append, List.length_cons, List.length_nil]; omega), ?_⟩
          rw [ew] at q
          rw [ecs]
          simpa using q
    | res fs r =>
      obtain ⟨h1, h2, c, d, rfl, c0, c1, d0, d1⟩ := hs
      have ew : wordsOf ls n = ("rest" : Str) :: (fs.map numW ++ (";" : Str) :: [numW c, numW d]) := by unfold wordsOf; rw [wordsF_one el]; rfl
      rw [show lnD (.res fs [c, d]) = .tuple [.str "rest", .tuple (fs.map .int), .int c, .int d] from rfl]
      walk_at "ab"
      refine ⟨sh_ok ok_rest, sh_two, ?_⟩
      rw [two_r, if_pos rfl]
      obtain ⟨cs, ecs⟩ : ∃ cs, cs = [c, d] := ⟨_, rfl⟩
      have lcs : cs.length = 2 := by rw [ecs]; rfl
      rw [show Ab.cutD [PyData.str "rest", PyData.tuple (fs.map PyData.int), PyData.int c, PyData.int d] (some 2) none = cs.map PyData.int by rw [cutD_from (by omega), ecs]; rfl]
      walk_at "ab"
      refine ⟨fun i acc => acc = ((fs.take i).map numW).map .str, rfl, ?_, ?_⟩
      · intro i x hx acc e
        subst e
        refine ⟨row fs h1 i x hx, size_ok (by rw [List.length_map, List.length_map, List.length_take]; omega), comp fs i x hx⟩
      · intro acc e
        subst e
        rw [List.take_of_length_le (Nat.le_refl _)]
        have lf : ((fs.map numW).map PyData.str).length ≤ 10 := by rw [List.length_map, List.length_map]; exact h2
        refine ⟨size_le (by omega), size_le (by simp; omega), fun i acc => acc = ((cs.take i).map numW).map .str, rfl, ?_, ?_⟩
        · intro i x hx acc e
          subst e
          refine ⟨row cs (by rw [ecs]; simpa using ⟨⟨c0, c1⟩, d0, d1⟩) i x hx, size_ok (by rw [List.length_map, List.length_map, List.length_take]; omega), comp cs i x hx⟩
        · intro acc e
          subst e
          rw [List.take_of_length_le (Nat.le_refl _)]
          have lc : ((cs.map numW).map PyData.str).length ≤ 2 := by rw [List.length_map, List.length_map]; omega
          refine ⟨size_le (by simp only [List.length_append, List.length_cons, List.length_nil]; omega), ?_⟩
          rw [ew] at q
          rw [ecs]
          simpa using q
    | ref k os =>
      have okl := okL_ref (okFrom_at ok el)
      have ew := wordsOf_ref ok el
      have k2 : os.length ≤ 2 := by rw [okl.1]; cases k <;> decide
      rw [show lnD (.ref k os) = .tuple (.str k.name :: os.map .int) from rfl]
      walk_at "ab"
      refine ⟨sh_ok (ok_kind k), sh_two, ?_⟩
      rw [two_k, if_neg (by simp), show Ab.cutD (PyData.str k.name :: List.map PyData.int os) (some 1) none = os.map PyData.int by rw [cutD_from (by omega)]; rfl]
      walk_at "ab"
      refine ⟨fun i Γ => ∃ g4, Γ = [some (.dat (sayD ls)), some (.dat (.int (n : Nat))), some (.dat (.tuple (.str k.name :: os.map .int))), some (.own ((k.name :: (os.take i).flatMap fun o => wordsOf ls o.toNat).map .str)), g4, none] ∧ ((os.take i).flatMap fun o => wordsOf ls o.toNat).length ≤ i * 20000, ⟨none, rfl, by simp⟩, ?_, ?_⟩
      · rintro i o ho Γ ⟨g4, rfl, hl⟩
        have hi2 := (List.getElem?_eq_some_iff.mp ho).1
        have ho' := okl.2 o (List.mem_of_getElem? ho)
        refine ⟨_, rfl, ?_⟩
        unfold sayD
        walk_at "ab"
        have hwo := hw o.toNat (by omega)
        refine ⟨ls, o.toNat, by rw [show ((o.toNat : Nat) : Int) = o by omega]; rfl, by omega, by omega, ok, sm, fun k hk => hw k (by omega), ?_⟩
        walk_at "ab"
        refine ⟨size_le (by (try simp only [List.length_map, List.length_cons]); omega), ⟨some (.dat (.int o)), ?_⟩, ?_⟩
        · rw [List.take_add_one, ho, Option.toList_some, List.flatMap_append, List.map_append]
          simp
        · rw [List.take_add_one, ho, Option.toList_some, List.flatMap_append, List.length_append, List.flatMap_cons, List.flatMap_nil, List.append_nil]
          omega
      · rintro Γ ⟨g4, rfl, hl⟩
        rw [List.take_of_length_le (Nat.le_refl _)]
        walk_at "ab"
        rw [ew] at q
        exact q
/-! ### _law_told -/
def a_l_told : Addr → Asp := fun st rs P => ∃ (z : Str) (row : List Str) (n : Int), rs = [.dat (.str z)] ∧ Txt.split z " " = row ∧ z.length + 2 ≤ sizeLine ∧ row.length ≤ 1000000 ∧ (∀ i, knownW (wAt row i) = true) ∧ toldR row = some n ∧ P (.dat (.int n))
theorem toldR_is {row : List Str} {n : Int} (h : toldR row = some n) : n = -1 ∨ n = -4 ∨ 0 ≤ n := by
  unfold toldR at h
  split at h
  · cases h
  · cases h; omega
  · split at h
    · cases h; omega
    · split at h
      · cases h; omega
      · cases h; omega
set_option maxHeartbeats 16000000 in
theorem ok_l_told (T : Txt P w K mg) (tb_number_of : LamX.TabB base mg T.c_number_of T.t_number_of) : FnOk P w K mg base CX0 68 T.a_l_told T.fd_l_told ["_law_text"] (dSp K (T.Tb.map (·.1)) (drW K T.Tb) a_l_told) := by
  have nd := sc_l_told.nd
  refine T.F_l_told.ok sc_l_told (fun vs H Q E h => ?_) (fun cdv A outer s H vs Q E hr h => ?_)
  · obtain ⟨st, J, rs, R, _, _, h1, ⟨z, row, n, rfl, _⟩, _⟩ := h
    exact (Paired.length h1).trans rfl
  · obtain ⟨s0, J, rs, R, hW, hJ, hargs, ⟨z, row, n, rfl, hsp, hz, hw, kn, ht, hR⟩, q⟩ := h
    obtain ⟨v0, rfl, r0⟩ : ∃ v0, vs = [v0] ∧ ArgR K (s0 :: T.Tb.map (·.1)) H v0 (.dat (.str z)) := by
      cases hargs with
      | cons a t =>
        cases t
        exact ⟨_, rfl, a⟩
    have e0 : v0 = .str z := r0.ro.str
    subst e0
    refine ⟨_, pss_cons (ps_try_manyA (Wout := fun _ _ _ _ => False) rfl rfl nd takes_none5
        (fun W pn xe tk _ => pss_one (ps_expr (pe_callS (ok_parse_saying T tb_number_of) (hr.mono (by decide)) (by rfl) T.m_parse_saying T.F_parse_saying.kp T.b_parse_saying (fun σ => passAt tk σ) (pa_cons (pv 0) pa_nil))))
        (.cons (i := 1) ⟨rfl, by decide, .inl T.er.gI⟩ rfl rfl
          (fun a oe cls d pn hz hf => pss_cons (ps_if (PW.pt (pw_or (pt_val (pe_callB (call_isD T.er.cI hz hf) (by rfl) T.z_isinstance bo_isinstance (pa_cons (pv 1) (pa_cons (pe_glob (v := .ref T.er.T) (by rfl) T.er.gT rfl) pa_nil))))
              (pw_or (pt_val (pe_callB (call_isD T.er.cI hz hf) (by rfl) T.z_isinstance bo_isinstance (pa_cons (pv 1) (pa_cons (pe_glob (v := .ref T.er.U) (by rfl) T.er.gU rfl) pa_nil))))
              (pw_or1 (pt_val (pe_callB (call_isD T.er.cI hz hf) (by rfl) T.z_isinstance bo_isinstance (pa_cons (pv 1) (pa_cons (pe_glob (v := .ref T.er.N) (by rfl) T.er.gN rfl) pa_nil))))))))
              (pss_one (ps_ret (pe_op op_sub pe_int pe_int))) pss_nil)
            (pss_cons (ps_if (PW.pt (pw_or (pt_not (pt_val (pe_callB (call_isD T.er.cI hz hf) (by rfl) T.z_isinstance bo_isinstance (pa_cons (pv 1) (pa_cons (pe_glob (v := .ref T.er.S) (by rfl) T.er.gS rfl) pa_nil)))))
              (pw_or1 (pt_not (pt_val (pe_callB (call_isD T.er.cI hz hf) (by rfl) T.z_isinstance bo_isinstance (pa_cons (pv 1) (pa_cons (pe_bltn (v := .ty "ValueError") (by rfl) T.er.gV PyProof.Rows.Boot.«ValueError» rfl) pa_nil))))))))
              (pss_one (ps_ret (pe_op op_sub pe_int pe_int))) pss_nil)
            (pss_one (ps_ret (pe_xf T.er.xI T.er.sup.noN hz hf (pv 1))))))
        (.cons (i := 1) ⟨rfl, by decide, .inl T.er.gT⟩ rfl rfl
          (fun a oe cls d pn hz hf => pss_cons (ps_if (PW.pt (pw_or (pt_val (pe_callB (call_isD T.er.cT hz hf) (by rfl) T.z_isinstance bo_isinstance (pa_cons (pv 1) (pa_cons (pe_glob (v := .ref T.er.N) (by rfl) T.er.gN rfl) pa_nil))))
              (pw_or (pt_val (pe_callB (call_isD T.er.cT hz hf) (by rfl) T.z_isinstance bo_isinstance (pa_cons (pv 1) (pa_cons (pe_glob (v := .ref T.er.U) (by rfl) T.er.gU rfl) pa_nil))))
              (pw_or1 (pt_val (pe_callB (call_isD T.er.cT hz hf) (by rfl) T.z_isinstance bo_isinstance (pa_cons (pv 1) (pa_cons (pe_glob (v := .ref T.er.I) (by rfl) T.er.gI rfl) pa_nil))))))))
              (pss_one (ps_ret (pe_op op_sub pe_int pe_int))) pss_nil)
            (pss_cons (ps_if (pt_not (pt_val (pe_callB (call_isD T.er.cT hz hf) (by rfl) T.z_isinstance bo_isinstance (pa_cons (pv 1) (pa_cons (pe_glob (v := .ref T.er.S) (by rfl) T.er.gS rfl) pa_nil)))))
              (pss_one (ps_ret (pe_op op_sub pe_int pe_int))) pss_nil)
            (pss_one (ps_ret (pe_op op_sub pe_int pe_int))))) .nil)))
      (pss_one (ps_ret (pe_op op_sub pe_int pe_int))), ?_⟩
    have back : ∀ {H1 : Hp} {v : V}, J H1 → Fx (s0 :: T.Tb.map (·.1)) H H1 → v = .int n → Q v H1 := fun {H1 v} j f e => by
      subst e
      exact q _ H1 (.dat (.int n)) f j (rr_int _) rfl hR
    refine ⟨_, rfl, s0, J, z, row, n, rfl, hW, hJ, hsp, hz, hw, kn, ht, fun en v H1 j1 f1 => ?_, fun n0 d H1 j1 f1 ed => ?_, fun en H1 j1 f1 => ?_⟩
    · exact ⟨0, 1, rfl, rfl, back j1 f1 (by rw [en]; rfl)⟩
    · refine ⟨true, T.er.eII, fun _ a na => ?_, fun z => by cases z⟩
      have hd : ∀ dd, some d = some dd → ∃ fs, H1 dd = some (.xd fs) := fun dd e => ⟨_, by cases e; exact ed⟩
      refine ⟨_, rfl, rfl, hd, _, _, false, rfl, fun u r => r, T.er.kIT, false, rfl, ?_⟩
      refine ite2 (fun c => by cases c) (fun _ => ?_)
      refine ⟨_, rfl, rfl, hd, _, _, false, rfl, fun u r => r, T.er.kIU, false, rfl, ?_⟩
      refine ite2 (fun c => by cases c) (fun _ => ?_)
      refine ⟨_, rfl, rfl, hd, _, _, false, rfl, fun u r => r, T.er.kIN, false, rfl, ?_⟩
      refine ite2 (fun c => by cases c) (fun _ => ?_)
      refine ⟨_, rfl, rfl, hd, _, _, true, rfl, fun u r => r, T.er.kIS, true, rfl, ?_⟩
      refine ite2 (fun c => by cases c) (fun _ => ?_)
      refine ⟨_, rfl, rfl, hd, _, _, true, rfl, fun u r => r, T.er.kIV, true, rfl, ?_⟩
      refine ite2 (fun c => by cases c) (fun _ => ?_)
      refine ⟨_, rfl, rfl, rfl, d, _, .int n, rfl, ed, by simp [List.lookup], back j1 f1 rfl⟩
    · refine ⟨false, T.er.eTI, (fun z => by cases z), fun _ => ⟨true, T.er.eTT, fun _ a na => ?_, (fun z => by cases z)⟩⟩
      have hd : ∀ dd, (none : Option Addr) = some dd → ∃ fs, H1 dd = some (.xd fs) := fun dd e => by cases e
      refine ⟨_, rfl, rfl, hd, _, _, false, rfl, fun u r => r, T.er.kTN, false, rfl, ?_⟩
      refine ite2 (fun c => by cases c) (fun _ => ?_)
      refine ⟨_, rfl, rfl, hd, _, _, false, rfl, fun u r => r, T.er.kTU, false, rfl, ?_⟩
      refine ite2 (fun c => by cases c) (fun _ => ?_)
      refine ⟨_, rfl, rfl, hd, _, _, false, rfl, fun u r => r, T.er.kTI, false, rfl, ?_⟩
      refine ite2 (fun c => by cases c) (fun _ => ?_)
      refine ⟨_, rfl, rfl, hd, _, _, true, rfl, fun u r => r, T.er.kTS, true, rfl, ?_⟩
      refine ite2 (fun c => by cases c) (fun _ => ?_)
      exact ⟨0, 4, rfl, rfl, back j1 f1 (by rw [en]; rfl)⟩
/-! ### _law_odd -/
/-! #### odds -/
/-! one word exchanged: where the reading stops -/
def Agree (row row' : List Str) (q : Nat) : Prop := ∀ i, i < q → wAt row' i = wAt row i
theorem Agree.le {row row' : List Str} {p q : Nat} (h : Agree row row' q) (k : p ≤ q) : Agree row row' p := fun i hi => h i (by omega)
section
variable {row row' : List Str}
theorem facR_semi1 {m p : Nat} (h : wAt row p = ";") : facR row m p = .ok (p + 1) 0 := by
  cases m with
  | zero => rw [facR, if_pos h]
  | succ m => rw [facR, if_pos h]
theorem facR_bad1 {m p : Nat} (h : wAt row p ≠ ";") (k : numOf (wAt row p) (-9) 9 = none) : facR row m p = .bad p := by
  cases m with
  | zero => rw [facR, if_neg h]
  | succ m => rw [facR, if_neg h, k]
theorem facR_step {m p : Nat} {n : Int} (h : wAt row p ≠ ";") (k : numOf (wAt row p) (-9) 9 = some n) : facR row (m + 1) p = facR row m (p + 1) := by
  rw [facR, if_neg h, k]
/-- what a reading of factors that goes well is -/
theorem facR_inv {m p q c : Nat} (e : facR row m p = .ok q c) : (wAt row p = ";" ∧ q = p + 1 ∧ c = 0) ∨ ∃ m' n, m = m' + 1 ∧ wAt row p ≠ ";" ∧ numOf (wAt row p) (-9) 9 = some n ∧ facR row m' (p + 1) = .ok q c := by
  by_cases h : wAt row p = ";"
  · rw [facR_semi1 h] at e
    cases e
    exact .inl ⟨h, rfl, rfl⟩
  · cases k : numOf (wAt row p) (-9) 9 with
    | none => rw [facR_bad1 h k] at e; cases e
    | some n =>
      cases m with
      | zero => rw [facR, if_neg h] at e; cases e
      | succ m =>
        rw [facR_step h k] at e
        exact .inr ⟨m, n, rfl, h, rfl, e⟩
theorem facR_last : ∀ {m p q c : Nat}, facR row m p = .ok q c → p < q ∧ wAt row (q - 1) = ";" := by
  intro m
  induction m with
  | zero =>
    intro p q c e
    rcases facR_inv e with ⟨h, rfl, _⟩ | ⟨m', _, h, _⟩
    · exact ⟨by omega, h⟩
    · omega
  | succ m ih =>
    intro p q c e
    rcases facR_inv e with ⟨h, rfl, _⟩ | ⟨m', n, hm, _, _, e'⟩
    · exact ⟨by omega, h⟩
    · have : m' = m := by omega
      subst this
      have := ih e'
      exact ⟨by omega, this.2⟩
theorem facR_agree : ∀ {m p q c : Nat}, facR row m p = .ok q c → Agree row row' q → facR row' m p = .ok q c := by
  intro m
  induction m with
  | zero =>
    intro p q c e a
    have lt := (facR_last e).1
    rcases facR_inv e with ⟨h, rfl, rfl⟩ | ⟨m', _, h, _⟩
    · exact facR_semi1 (by rw [a p lt]; exact h)
    · omega
  | succ m ih =>
    intro p q c e a
    have lt := (facR_last e).1
    rcases facR_inv e with ⟨h, rfl, rfl⟩ | ⟨m', n, hm, h1, h2, e'⟩
    · exact facR_semi1 (by rw [a p lt]; exact h)
    · have : m' = m := by omega
      subst this
      rw [facR_step (n := n) (by rw [a p lt]; exact h1) (by rw [a p lt]; exact h2)]
      exact ih e' a
theorem belR_inv {p q c : Nat} (e : belR row p = .ok q c) : ∃ q0 c0 n, facR row 6 p = .ok q0 c0 ∧ numOf (wAt row q0) (-99) 99 = some n ∧ q = q0 + 1 ∧ c = 1 := by
  unfold belR at e
  cases h : facR row 6 p with
  | bad q0 => rw [h] at e; cases e
  | ok q0 c0 =>
    rw [h] at e
    dsimp only at e
    cases k : numOf (wAt row q0) (-99) 99 with
    | none => rw [k] at e; cases e
    | some n => rw [k] at e; cases e; exact ⟨q0, c0, n, rfl, k, rfl, rfl⟩
theorem resR_inv {p q c : Nat} (e : resR row p = .ok q c) : ∃ q0 c0 d n, facR row 6 p = .ok q0 c0 ∧ numOf (wAt row q0) 1 12 = some d ∧ numOf (wAt row (q0 + 1)) 0 (d - 1) = some n ∧ q = q0 + 2 ∧ c = 1 := by
  unfold resR at e
  cases h : facR row 6 p with
  | bad q0 => rw [h] at e; cases e
  | ok q0 c0 =>
    rw [h] at e
    dsimp only at e
    cases k : numOf (wAt row q0) 1 12 with
    | none => rw [k] at e; cases e
    | some d =>
      rw [k] at e
      dsimp only at e
      cases k2 : numOf (wAt row (q0 + 1)) 0 (d - 1) with
      | none => rw [k2] at e; cases e
      | some n => rw [k2] at e; cases e; exact ⟨q0, c0, d, n, rfl, k, k2, rfl, rfl⟩
theorem belR_mk {p q0 c0 : Nat} {n : Int} (h : facR row 6 p = .ok q0 c0) (k : numOf (wAt row q0) (-99) 99 = some n) : belR row p = .ok (q0 + 1) 1 := by
  unfold belR
  rw [h]
  dsimp only
  rw [k]
theorem resR_mk {p q0 c0 : Nat} {d n : Int} (h : facR row 6 p = .ok q0 c0) (k : numOf (wAt row q0) 1 12 = some d) (k2 : numOf (wAt row (q0 + 1)) 0 (d - 1) = some n) : resR row p = .ok (q0 + 2) 1 := by
  unfold resR
  rw [h]
  dsimp only
  rw [k]
  dsimp only
  rw [k2]
theorem belR_agree {p q c : Nat} (e : belR row p = .ok q c) (a : Agree row row' q) : belR row' p = .ok q c := by
  obtain ⟨q0, c0, n, h1, h2, rfl, rfl⟩ := belR_inv e
  exact belR_mk (facR_agree h1 (a.le (by omega))) (by rw [a q0 (by omega)]; exact h2)
theorem resR_agree {p q c : Nat} (e : resR row p = .ok q c) (a : Agree row row' q) : resR row' p = .ok q c := by
  obtain ⟨q0, c0, d, n, h1, h2, h3, rfl, rfl⟩ := resR_inv e
  exact resR_mk (facR_agree h1 (a.le (by omega))) (by rw [a q0 (by omega)]; exact h2) (by rw [a (q0 + 1) (by omega)]; exact h3)
theorem manyR_inv {g : Nat → Option Res} {k p q c : Nat} (e : manyR g (k + 1) p = some (.ok q c)) : ∃ q1 c1 c2, g p = some (.ok q1 c1) ∧ manyR g k q1 = some (.ok q c2) ∧ c = c1 + c2 := by
  cases h : g p with
  | none => rw [manyR_none h] at e; cases e
  | some r =>
    cases r with
    | bad q1 => rw [manyR_bad h] at e; cases e
    | ok q1 c1 =>
      rw [manyR_ok h] at e
      cases h2 : manyR g k q1 with
      | none => rw [h2] at e; cases e
      | some r2 =>
        rw [h2] at e
        cases r2 with
        | bad q2 => cases e
        | ok q2 c2 => cases e; exact ⟨q1, c1, c2, rfl, h2, rfl⟩
theorem upR_inv {o : Option Res} {q c : Nat} (e : upR o = some (.ok q c)) : ∃ c', o = some (.ok q c') ∧ c = c' + 1 := by
  match o, e with
  | some (.ok q' m), e => cases e; exact ⟨m, rfl, rfl⟩
  | some (.bad q'), e => cases e
  | none, e => cases e
theorem manyR_agree {g g' : Nat → Option Res} (hf : ∀ p r, g p = some r → r.fit p) (hg : ∀ p q c, g p = some (.ok q c) → Agree row row' q → g' p = some (.ok q c)) : ∀ (k : Nat) {p q c : Nat}, manyR g k p = some (.ok q c) → Agree row row' q → manyR g' k p = some (.ok q c)
  | 0, p, q, c, e, _ => e
  | k + 1, p, q, c, e, a => by
    obtain ⟨q1, c1, c2, h1, h2, rfl⟩ := manyR_inv e
    have f2 : q1 + c2 ≤ q := manyR_fit hf k h2
    rw [manyR_ok (hg p q1 c1 h1 (a.le (by omega))), manyR_agree hf hg k h2 a]
    rfl
/-- the kinds of a line that goes well -/
theorem lineR_inv {f p q c : Nat} (e : lineR row (f + 1) p = some (.ok q c)) : (wAt row p = "below" ∧ belR row (p + 1) = .ok q c) ∨ (wAt row p = "rest" ∧ resR row (p + 1) = .ok q c) ∨
    ∃ k c', (wAt row p = "not" ∧ k = 1 ∨ wAt row p = "both" ∧ k = 2 ∨ wAt row p = "there" ∧ k = 1) ∧ manyR (lineR row f) k (p + 1) = some (.ok q c') ∧ c = c' + 1 := by
  rw [lineR] at e
  by_cases h1 : wAt row p = "below"
  · rw [if_pos h1] at e
    exact .inl ⟨h1, Option.some.inj e⟩
  rw [if_neg h1] at e
  by_cases h2 : wAt row p = "rest"
  · rw [if_pos h2] at e
    exact .inr (.inl ⟨h2, Option.some.inj e⟩)
  rw [if_neg h2] at e
  by_cases h3 : wAt row p = "not"
  · rw [if_pos h3] at e
    obtain ⟨c', h, e'⟩ := upR_inv e
    exact .inr (.inr ⟨1, c', .inl ⟨h3, rfl⟩, h, e'⟩)
  rw [if_neg h3] at e
  by_cases h4 : wAt row p = "both"
  · rw [if_pos h4] at e
    obtain ⟨c', h, e'⟩ := upR_inv e
    exact .inr (.inr ⟨2, c', .inr (.inl ⟨h4, rfl⟩), h, e'⟩)
  rw [if_neg h4] at e
  by_cases h5 : wAt row p = "there"
  · rw [if_pos h5] at e
    obtain ⟨c', h, e'⟩ := upR_inv e
    exact .inr (.inr ⟨1, c', .inr (.inr ⟨h5, rfl⟩), h, e'⟩)
  rw [if_neg h5] at e
  split at e
  · cases e
  · cases e
theorem lineR_bel {f p : Nat} (h : wAt row p = "below") : lineR row (f + 1) p = some (belR row (p + 1)) := by rw [lineR, if_pos h]
theorem lineR_res {f p : Nat} (h : wAt row p = "rest") : lineR row (f + 1) p = some (resR row (p + 1)) := by rw [lineR, if_neg (by rw [h]; decide +kernel), if_pos h]
theorem lineR_kid {f p k : Nat} (h : wAt row p = "not" ∧ k = 1 ∨ wAt row p = "both" ∧ k = 2 ∨ wAt row p = "there" ∧ k = 1) : lineR row (f + 1) p = upR (manyR (lineR row f) k (p + 1)) := by
  rcases h with ⟨h, rfl⟩ | ⟨h, rfl⟩ | ⟨h, rfl⟩
  · rw [lineR, if_neg (by rw [h]; decide +kernel), if_neg (by rw [h]; decide +kernel), if_pos h]
  · rw [lineR, if_neg (by rw [h]; decide +kernel), if_neg (by rw [h]; decide +kernel), if_neg (by rw [h]; decide +kernel), if_pos h]
  · rw [lineR, if_neg (by rw [h]; decide +kernel), if_neg (by rw [h]; decide +kernel), if_neg (by rw [h]; decide +kernel), if_neg (by rw [h]; decide +kernel), if_pos h]
theorem lineR_odd {f p : Nat} (h : wAt row p ∈ oddN) : lineR row (f + 1) p = some (.bad p) := by
  have : ∀ z ∈ oddN, z ≠ "below" ∧ z ≠ "rest" ∧ z ≠ "not" ∧ z ≠ "both" ∧ z ≠ "there" := by decide +kernel
  obtain ⟨h1, h2, h3, h4, h5⟩ := this _ h
  rw [lineR, if_neg h1, if_neg h2, if_neg h3, if_neg h4, if_neg h5, if_pos h]
theorem lineR_agree : ∀ {f p q c : Nat}, lineR row f p = some (.ok q c) → Agree row row' q → lineR row' f p = some (.ok q c)
  | 0, p, q, c, e, _ => by cases e
  | f + 1, p, q, c, e, a => by
    have fit : p + c ≤ q := lineR_fit e
    rcases lineR_inv e with ⟨h, e'⟩ | ⟨h, e'⟩ | ⟨k, c', h, e', rfl⟩
    · have : p < q := by obtain ⟨q0, c0, n, h1, _, rfl, _⟩ := belR_inv e'; have := facR_last h1; omega
      rw [lineR_bel (by rw [a p this]; exact h), belR_agree e' a]
    · have : p < q := by obtain ⟨q0, c0, d, n, h1, _, _, rfl, _⟩ := resR_inv e'; have := facR_last h1; omega
      rw [lineR_res (by rw [a p this]; exact h), resR_agree e' a]
    · rw [lineR_kid (k := k) (by rw [a p (by omega)]; exact h), manyR_agree (row := row) (fun p r => lineR_fit) (fun p q c e a => lineR_agree e a) k e' a]
      rfl
/-! ### the role of a word -/
def namesL : List Str := ["below", "rest", "not", "both", "there"]
def RoleN (row : List Str) (t : Nat) : Prop := wAt row t ∈ namesL
def RoleF (row : List Str) (t : Nat) : Prop := wAt row t = ";" ∨ ∃ n, numOf (wAt row t) (-9) 9 = some n
def RoleC (row : List Str) (t : Nat) : Prop := (∃ lo hi n, numOf (wAt row t) lo hi = some n) ∧ 1 ≤ t ∧ (wAt row (t - 1) = ";" ∨ 2 ≤ t ∧ wAt row (t - 2) = ";" ∧ ∃ n, numOf (wAt row (t - 1)) 1 12 = some n)
def BadF (z : Str) : Prop := z ≠ ";" ∧ numOf z (-9) 9 = none
def BadC (z : Str) : Prop := ∀ lo hi : Int, -99 ≤ lo → hi ≤ 99 → numOf z lo hi = none
def Rol (row : List Str) (t : Nat) (B : List Str → Prop) : Prop := (RoleN row t ∧ ∀ row', Agree row row' t → wAt row' t ∈ oddN → B row') ∨ (RoleF row t ∧ ∀ row', Agree row row' t → BadF (wAt row' t) → B row') ∨ (RoleC row t ∧ ∀ row', Agree row row' t → BadC (wAt row' t) → B row')
theorem Rol.imp {t : Nat} {B B' : List Str → Prop} (h : Rol row t B) (k : ∀ row', Agree row row' t → B row' → B' row') : Rol row t B' := by
  rcases h with ⟨r, h⟩ | ⟨r, h⟩ | ⟨r, h⟩
  · exact .inl ⟨r, fun row' a b => k row' a (h row' a b)⟩
  · exact .inr (.inl ⟨r, fun row' a b => k row' a (h row' a b)⟩)
  · exact .inr (.inr ⟨r, fun row' a b => k row' a (h row' a b)⟩)
theorem facR_role : ∀ {m p q c t : Nat}, facR row m p = .ok q c → p ≤ t → t < q → Rol row t (fun row' => facR row' m p = .bad t) := by
  intro m
  induction m with
  | zero =>
    intro p q c t e h1 h2
    rcases facR_inv e with ⟨h, rfl, rfl⟩ | ⟨m', _, h, _⟩
    · have : t = p := by omega
      subst this
      exact .inr (.inl ⟨.inl h, fun row' _ b => facR_bad1 b.1 b.2⟩)
    · omega
  | succ m ih =>
    intro p q c t e h1 h2
    rcases facR_inv e with ⟨h, rfl, rfl⟩ | ⟨m', n, hm, k1, k2, e'⟩
    · have : t = p := by omega
      subst this
      exact .inr (.inl ⟨.inl h, fun row' _ b => facR_bad1 b.1 b.2⟩)
    · have : m' = m := by omega
      subst this
      by_cases ht : t = p
      · subst ht
        exact .inr (.inl ⟨.inr ⟨n, k2⟩, fun row' _ b => facR_bad1 b.1 b.2⟩)
      · exact (ih e' (by omega) h2).imp fun row' a b => by
          rw [facR_step (n := n) (by rw [a p (by omega)]; exact k1) (by rw [a p (by omega)]; exact k2)]
          exact b
theorem belR_role {p q c t : Nat} (e : belR row p = .ok q c) (h1 : p ≤ t) (h2 : t < q) : Rol row t (fun row' => belR row' p = .bad t) := by
  obtain ⟨q0, c0, n, f, k, rfl, rfl⟩ := belR_inv e
  by_cases ht : t < q0
  · exact (facR_role f h1 ht).imp fun row' _ b => by unfold belR; rw [b]
  · have : t = q0 := by omega
    subst this
    have l := facR_last f
    refine .inr (.inr ⟨⟨⟨_, _, n, k⟩, by omega, .inl l.2⟩, fun row' a b => ?_⟩)
    show belR row' p = .bad t
    unfold belR
    rw [facR_agree f a]
    dsimp only
    rw [b (-99) 99 (by omega) (by omega)]
theorem resR_role {p q c t : Nat} (e : resR row p = .ok q c) (h1 : p ≤ t) (h2 : t < q) : Rol row t (fun row' => resR row' p = .bad t) := by
  obtain ⟨q0, c0, d, n, f, k, k2, rfl, rfl⟩ := resR_inv e
  have hd : d ≤ 12 := by
    unfold numOf at k
    split at k
    · split at k
      · split at k
        · cases k; omega
        · cases k
      · cases k
    · cases k
  by_cases ht : t < q0
  · exact (facR_role f h1 ht).imp fun row' _ b => by unfold resR; rw [b]
  have l := facR_last f
  by_cases ht2 : t = q0
  · subst ht2
    refine .inr (.inr ⟨⟨⟨_, _, d, k⟩, by omega, .inl l.2⟩, fun row' a b => ?_⟩)
    show resR row' p = .bad t
    unfold resR
    rw [facR_agree f a]
    dsimp only
    rw [b 1 12 (by omega) (by omega)]
  · have : t = q0 + 1 := by omega
    subst this
    refine .inr (.inr ⟨⟨⟨_, _, n, k2⟩, by omega, .inr ⟨by omega, l.2, d, k⟩⟩, fun row' a b => ?_⟩)
    show resR row' p = .bad (q0 + 1)
    unfold resR
    rw [facR_agree f (a.le (by omega))]
    dsimp only
    rw [a q0 (by omega), k]
    dsimp only
    rw [b 0 (d - 1) (by omega) (by omega)]
theorem manyR_role {g : List Str → Nat → Option Res} (hf : ∀ p r, g row p = some r → r.fit p) (ha : ∀ row' p q c, g row p = some (.ok q c) → Agree row row' q → g row' p = some (.ok q c))
    (hg : ∀ p q c t, g row p = some (.ok q c) → p ≤ t → t < q → Rol row t (fun row' => g row' p = some (.bad t))) : ∀ (k : Nat) {p q c t : Nat}, manyR (g row) k p = some (.ok q c) → p ≤ t → t < q → Rol row t (fun row' => manyR (g row') k p = some (.bad t))
  | 0, p, q, c, t, e, h1, h2 => by cases e; omega
  | k + 1, p, q, c, t, e, h1, h2 => by
    obtain ⟨q1, c1, c2, e1, e2, rfl⟩ := manyR_inv e
    by_cases ht : t < q1
    · exact (hg p q1 c1 t e1 h1 ht).imp fun row' _ b => manyR_bad b
    · exact (manyR_role hf ha hg k e2 (by omega) h2).imp fun row' a b => by
        rw [manyR_ok (ha row' p q1 c1 e1 (a.le (by omega))), b]
        rfl
theorem lineR_role : ∀ {f p q c t : Nat}, lineR row f p = some (.ok q c) → p ≤ t → t < q → Rol row t (fun row' => lineR row' f p = some (.bad t))
  | 0, p, q, c, t, e, _, _ => by cases e
  | f + 1, p, q, c, t, e, h1, h2 => by
    have nm : ∀ z : Str, z ∈ namesL → wAt row p = z → t = p → Rol row t (fun row' => lineR row' (f + 1) p = some (.bad t)) := fun z hz hp ht => by
      subst ht
      exact .inl ⟨by unfold RoleN; rw [hp]; exact hz, fun row' _ b => lineR_odd b⟩
    rcases lineR_inv e with ⟨h, e'⟩ | ⟨h, e'⟩ | ⟨k, c', h, e', rfl⟩
    · by_cases ht : t = p
      · exact nm _ (by decide +kernel) h ht
      · exact (belR_role e' (by omega) h2).imp fun row' a b => by rw [lineR_bel (by rw [a p (by omega)]; exact h), b]
    · by_cases ht : t = p
      · exact nm _ (by decide +kernel) h ht
      · exact (resR_role e' (by omega) h2).imp fun row' a b => by rw [lineR_res (by rw [a p (by omega)]; exact h), b]
    · by_cases ht : t = p
      · rcases h with ⟨h, _⟩ | ⟨h, _⟩ | ⟨h, _⟩
        · exact nm _ (by decide +kernel) h ht
        · exact nm _ (by decide +kernel) h ht
        · exact nm _ (by decide +kernel) h ht
      · exact (manyR_role (g := fun row => lineR row f) (fun p r => lineR_fit) (fun row' p q c e a => lineR_agree e a) (fun p q c t e h1 h2 => lineR_role e h1 h2) k e' (by omega) h2).imp fun row' a b => by
          rw [lineR_kid (k := k) (by rw [a p (by omega)]; exact h), b]
          rfl
end
/-! ### the words of a saying are read -/
theorem wAt_of {row ws : List Str} {p i : Nat} {z : Str} (wd : ∀ (i : Nat) (z : Str), ws[i]? = some z → row[p + i]? = some z) (e : ws[i]? = some z) : wAt row (p + i) = z := by
  unfold wAt
  rw [wd i z e]
  rfl
theorem wAt_of0 {row ws : List Str} {p : Nat} {z : Str} (wd : ∀ (i : Nat) (z : Str), ws[i]? = some z → row[p + i]? = some z) (e : ws[0]? = some z) : wAt row p = z := by
  have := wAt_of wd e
  rwa [Nat.add_zero] at this
theorem facR_words {row : List Str} : ∀ {fs : List Int} {m p : Nat}, fs.length ≤ m → (∀ f ∈ fs, -9 ≤ f ∧ f ≤ 9) → (∀ (i : Nat) (f : Int), fs[i]? = some f → wAt row (p + i) = numW f) → wAt row (p + fs.length) = ";" → facR row m p = .ok (p + fs.length + 1) 0
  | [], m, p, _, _, _, h => facR_semi1 h
  | f :: fs, m, p, hm, hr, hw, h => by
    obtain ⟨m', rfl⟩ : ∃ m', m = m' + 1 := ⟨m - 1, by simp at hm; omega⟩
    have h0 : wAt row p = numW f := hw 0 f rfl
    have hf := hr f (by simp)
    have k := numW_known (z := f) (by omega) (by omega)
    rw [facR_step (n := f) (by rw [h0]; exact k.2.1) (by rw [h0]; exact numOf_numW (by omega) (by omega) hf.1 hf.2)]
    have := facR_words (row := row) (fs := fs) (m := m') (p := p + 1) (by simp at hm; omega) (fun x hx => hr x (by simp [hx])) (fun i x e => by
      have := hw (i + 1) x (by simpa using e)
      rw [show p + 1 + i = p + (i + 1) by omega]
      exact this) (by rw [show p + 1 + fs.length = p + (f :: fs).length by simp; omega]; exact h)
    rw [this]
    simp
    omega
def sumT (ls : List Ln) (os : List Int) : Nat := (os.map fun o => tsz ls o.toNat).sum
theorem spreadL_sum {ls : List Ln} : ∀ {os : List Int} {s : Int}, (spreadL (spreadOf ls) s os).1.length = sumT ls os
  | [], _ => rfl
  | o :: os, s => by
    simp only [spreadL, List.length_append, spreadLen]
    rw [spreadL_sum]
    simp [sumT]
theorem tsz_ref {ls : List Ln} (ok : okFrom 0 ls = true) {n : Nat} {k : RK} {os : List Int} (e : ls[n]? = some (.ref k os)) : tsz ls n = sumT ls os + 1 := by
  unfold tsz
  rw [spreadOf_ref ok e, List.length_append, List.length_singleton, spreadL_sum]
theorem manyR_words {row : List Str} {ls : List Ln} {g : Nat → Option Res} : ∀ {os : List Int} {p : Nat}, (∀ o ∈ os, ∀ p', (∀ (i : Nat) (z : Str), (wordsOf ls o.toNat)[i]? = some z → row[p' + i]? = some z) → g p' = some (.ok (p' + (wordsOf ls o.toNat).length) (tsz ls o.toNat))) →
    (∀ (i : Nat) (z : Str), (os.flatMap fun o => wordsOf ls o.toNat)[i]? = some z → row[p + i]? = some z) → manyR g os.length p = some (.ok (p + (os.flatMap fun o => wordsOf ls o.toNat).length) (sumT ls os))
  | [], p, _, _ => rfl
  | o :: os, p, hg, wd => by
    rw [List.flatMap_cons] at wd ⊢
    have h1 := hg o (by simp) p fun i z e => wd i z (by rw [List.getElem?_append_left (List.getElem?_eq_some_iff.mp e).1]; exact e)
    rw [List.length_cons, manyR_ok h1]
    rw [manyR_words (os := os) (fun o ho => hg o (by simp [ho])) fun i z e => by
      have := wd ((wordsOf ls o.toNat).length + i) z (by rw [List.getElem?_append_right (by omega), Nat.add_sub_cancel_left]; exact e)
      rw [Nat.add_assoc]
      exact this]
    simp [addR, sumT]
    omega
theorem words_parse {row : List Str} {ls : List Ln} (ok : okFrom 0 ls = true) : ∀ (f n p : Nat), n < f → n < ls.length → (∀ (i : Nat) (z : Str), (wordsOf ls n)[i]? = some z → row[p + i]? = some z) → lineR row f p = some (.ok (p + (wordsOf ls n).length) (tsz ls n))
  | 0, n, p, h, _, _ => by omega
  | f + 1, n, p, hf, hn, wd => by
    obtain ⟨l, el⟩ : ∃ l, ls[n]? = some l := ⟨ls[n], List.getElem?_eq_getElem hn⟩
    have okl := okFrom_at ok el
    cases l with
    | e => simp [okL] at okl
    | und os => simp [okL] at okl
    | bel fs r =>
      obtain ⟨h1, h2, c, rfl, c0, c1⟩ := okL_bel okl
      have ew : wordsOf ls n = ("below" : Str) :: (fs.map numW ++ (";" : Str) :: [numW c]) := by unfold wordsOf; rw [wordsF_one el]; rfl
      have et : tsz ls n = 1 := by unfold tsz; rw [spreadOf_leaf el (fun k os z => by cases z)]; rfl
      rw [ew] at wd ⊢
      rw [lineR_bel (wAt_of0 wd rfl), et]
      have fac : facR row 6 (p + 1) = .ok (p + 1 + fs.length + 1) 0 := facR_words h1 h2 (fun i x e => by
        have hi := (List.getElem?_eq_some_iff.mp e).1
        rw [show p + 1 + i = p + (i + 1) by omega]
        exact wAt_of wd (by rw [List.getElem?_cons_succ, List.getElem?_append_left (by simpa using hi), List.getElem?_map, e]; rfl)) (by
        rw [show p + 1 + fs.length = p + (fs.length + 1) by omega]
        exact wAt_of wd (by rw [List.getElem?_cons_succ, List.getElem?_append_right (by simp)]; simp))
      have zc : wAt row (p + 1 + fs.length + 1) = numW c := by
        rw [show p + 1 + fs.length + 1 = p + (fs.length + 1 + 1) by omega]
        exact wAt_of wd (by rw [List.getElem?_cons_succ, List.getElem?_append_right (by simp)]; simp)
      rw [belR_mk (n := c) fac (by rw [zc]; exact numOf_numW c0 c1 c0 c1)]
      congr 2
      simp
      omega
    | res fs r =>
      obtain ⟨h1, h2, m, c, rfl, m0, m1, c0, c1⟩ := okL_res okl
      have ew : wordsOf ls n = ("rest" : Str) :: (fs.map numW ++ (";" : Str) :: [numW m, numW c]) := by unfold wordsOf; rw [wordsF_one el]; rfl
      have et : tsz ls n = 1 := by unfold tsz; rw [spreadOf_leaf el (fun k os z => by cases z)]; rfl
      rw [ew] at wd ⊢
      rw [lineR_res (wAt_of0 wd rfl), et]
      have fac : facR row 6 (p + 1) = .ok (p + 1 + fs.length + 1) 0 := facR_words h1 h2 (fun i x e => by
        have hi := (List.getElem?_eq_some_iff.mp e).1
        rw [show p + 1 + i = p + (i + 1) by omega]
        exact wAt_of wd (by rw [List.getElem?_cons_succ, List.getElem?_append_left (by simpa using hi), List.getElem?_map, e]; rfl)) (by
        rw [show p + 1 + fs.length = p + (fs.length + 1) by omega]
        exact wAt_of wd (by rw [List.getElem?_cons_succ, List.getElem?_append_right (by simp)]; simp))
      have zm : wAt row (p + 1 + fs.length + 1) = numW m := by
        rw [show p + 1 + fs.length + 1 = p + (fs.length + 1 + 1) by omega]
        exact wAt_of wd (by rw [List.getElem?_cons_succ, List.getElem?_append_right (by simp)]; simp)
      have zc : wAt row (p + 1 + fs.length + 1 + 1) = numW c := by
        rw [show p + 1 + fs.length + 1 + 1 = p + (fs.length + 1 + 1 + 1) by omega]
        exact wAt_of wd (by rw [List.getElem?_cons_succ, List.getElem?_append_right (by simp)]; simp [show fs.length + 1 + 1 - fs.length = 2 by omega])
      rw [resR_mk (d := m) (n := c) fac (by rw [zm]; exact numOf_numW (by omega) (by omega) m0 m1) (by rw [zc]; exact numOf_numW (by omega) (by omega) c0 (by omega))]
      congr 2
      simp
      omega
    | ref k os =>
      have hos := okL_ref okl
      have ew := wordsOf_ref ok el
      rw [tsz_ref ok el]
      rw [ew] at wd ⊢
      have z0 : wAt row p = k.name := wAt_of0 wd rfl
      have hk : wAt row p = "not" ∧ os.length = 1 ∨ wAt row p = "both" ∧ os.length = 2 ∨ wAt row p = "there" ∧ os.length = 1 := by
        rw [z0, hos.1]
        cases k
        · exact .inl ⟨rfl, rfl⟩
        · exact .inr (.inl ⟨rfl, rfl⟩)
        · exact .inr (.inr ⟨rfl, rfl⟩)
      rw [lineR_kid hk, manyR_words (ls := ls) (os := os) (fun o ho p' w => by
        have := hos.2 o ho
        exact words_parse ok f o.toNat p' (by omega) (by omega) w) fun i z e => by
        have := wd (i + 1) z (by simpa using e)
        rw [show p + 1 + i = p + (i + 1) by omega]
        exact this]
      simp [upR]
      omega
/-! #### strl -/
/-! lists of texts -/
theorem any_str {w : Str} : ∀ (L : List Str), ((L.map PyData.str).any fun z => z.eqv (.str w)) = decide (w ∈ L)
  | [] => rfl
  | x :: L => by
    rw [List.map_cons, List.any_cons, Ab.eqv_ss, any_str L]
    by_cases h : x = w
    · subst h; simp
    · have : w ≠ x := fun z => h z.symm
      simp [h, this]
theorem strs_flat : ∀ {L : List Str}, (∀ z ∈ L, PyData.strOk z = true) → PyData.canLayAll0 (L.map PyData.str) = true ∧ PyData.depthAll (L.map PyData.str) = 0
  | [], _ => ⟨rfl, by simp [PyData.depthAll]⟩
  | z :: L, h => by
    obtain ⟨h1, h2⟩ := strs_flat (L := L) fun x hx => h x (by simp [hx])
    rw [List.map_cons, PyData.canLayAll0, PyData.depthAll, PyData.canLay0, h z (by simp), h1, h2, PyData.depth]
    exact ⟨rfl, by simp⟩
theorem sh_strs {L : List Str} (h : ∀ z ∈ L, PyData.strOk z = true) : SeqAt.shaped (.list (L.map PyData.str)) = true := by
  obtain ⟨h1, h2⟩ := strs_flat h
  unfold SeqAt.shaped
  rw [PyData.canLay0, PyData.depth, h1, h2]
  rfl
theorem ix_any {L : List Str} {d : Int} {P : RV → Prop} (h0 : 0 ≤ d) (h1 : d < (L.length : Nat)) (h : ∀ z ∈ L, P (.dat (.str z))) : oIx (.new (L.map .str)) (.dat (.int d)) P := by
  rw [Ab.ix_n]
  have hl : d.toNat < L.length := by omega
  refine ⟨.str L[d.toNat], atI_map.mpr ⟨L[d.toNat], ?_, rfl⟩, h _ (List.getElem_mem hl)⟩
  rw [atI_pos h0 (by omega), List.getElem?_eq_getElem hl]
/-! #### joins -/
/-! words joined by blanks -/
theorem strOk_tl {z : Str} : PyData.strOk z = (TL.tl z).all (· < 0x110000) := by
  unfold PyData.strOk TL.tl
  rw [Array.all_toList]
theorem joinL_all {p : Nat → Bool} {S : List Nat} (hS : S.all p = true) : ∀ {l : List (List Nat)}, (∀ x ∈ l, x.all p = true) → (TL.joinL S l).all p = true
  | [], _ => rfl
  | [x], h => h x (by simp)
  | x :: y :: r, h => by
    show (x ++ (S ++ TL.joinL S (y :: r))).all p = true
    rw [List.all_append, List.all_append, h x (by simp), hS, joinL_all hS (l := y :: r) fun z hz => h z (List.mem_cons_of_mem _ hz)]
    rfl
theorem tl_blank : TL.tl " " = [32] := by decide +kernel
theorem strOk_join {ws : List Str} (h : ∀ z ∈ ws, fineW z) : PyData.strOk (Txt.join " " ws) = true := by
  rw [strOk_tl, TL.join_eq, TL.tl_join, tl_blank]
  refine joinL_all (by decide) fun x hx => ?_
  obtain ⟨z, hz, rfl⟩ := List.mem_map.mp hx
  have := (h z hz).2.2
  rwa [strOk_tl] at this
theorem sum_fine : ∀ {ws : List Str}, (∀ z ∈ ws, fineW z) → (ws.map (·.length)).sum ≤ 5 * ws.length
  | [], _ => by simp
  | x :: xs, h => by
    have h1 := (h x (by simp)).1
    have h2 := sum_fine (ws := xs) fun z hz => h z (by simp [hz])
    simp only [List.map_cons, List.sum_cons, List.length_cons]
    omega
theorem len_blank : (" " : Str).length = 1 := by decide +kernel
theorem join_len {ws : List Str} (h : ∀ z ∈ ws, fineW z) : (Txt.join " " ws).length ≤ 6 * ws.length := by
  rw [TL.join_eq]
  have h1 := StrLaws.join_length_le " " ws
  have h2 := sum_fine h
  rw [len_blank] at h1
  omega
theorem split_words {ws : List Str} (hne : ws ≠ []) (h : ∀ z ∈ ws, fineW z) : Txt.split (Txt.join " " ws) " " = ws :=
  TL.split_join tl_blank (by decide +kernel) hne fun p hp => (h p hp).2.1
/-! #### fix -/
/-! fixed texts -/
def fixB (z : Str) (n : Int) : Bool := (Txt.split z " ").all knownW && decide (toldR (Txt.split z " ") = some n) && decide ((Txt.split z " ").length ≤ 1000) && decide (z.length ≤ 10000)
theorem known_blank : knownW "" = true := by decide +kernel
theorem known_row {row : List Str} (h : row.all knownW = true) (i : Nat) : knownW (wAt row i) = true := by
  unfold wAt
  cases e : row[i]? with
  | none => exact known_blank
  | some z => exact List.all_eq_true.mp h z (List.mem_of_getElem? e)
theorem told_fix {st : Addr} {z : Str} {n : Int} {P : RV → Prop} (h : fixB z n = true) (p : P (.dat (.int n))) : a_l_told st [.dat (.str z)] P := by
  unfold fixB at h
  simp only [Bool.and_eq_true, decide_eq_true_eq] at h
  obtain ⟨⟨⟨h1, h2⟩, h3⟩, h4⟩ := h
  exact ⟨z, _, n, rfl, rfl, size_le (by omega), by omega, known_row h1, h2, p⟩
theorem fx01 : fixB "" 0 = true := by decide +kernel
theorem fx02 : fixB "below 1 1 1 1 1 1 1 ; 0" 7 = true := by decide +kernel
theorem fx03 : fixB "below 10 ; 0" 1 = true := by decide +kernel
theorem fx04 : fixB "rest 1 ; 3 3" 4 = true := by decide +kernel
theorem fx05 : fixB "rest 1 ; 13 0" 3 = true := by decide +kernel
theorem fx06 : fixB "rest 1 ; 0 0" 3 = true := by decide +kernel
theorem fx07 : fixB "below 1 ; 100" 3 = true := by decide +kernel
theorem fx08 : fixB " below ; 1" 0 = true := by decide +kernel
theorem fx09 : fixB "rest 1 ; 3 -1" 4 = true := by decide +kernel
theorem fx10 : fixB "below -10 ; 0" 1 = true := by decide +kernel
theorem fx11 : fixB "rest 1 ; -1 0" 3 = true := by decide +kernel
theorem fx12 : fixB (repS 40 "not " ++ "below ; 1 x") 43 = true := by decide +kernel
theorem fx13 : fixB (repS 24 "both " ++ repS 24 "below ; 1 " ++ "below ; x") 98 = true := by decide +kernel
theorem fx14 : fixB (repS 19 "both " ++ repS 19 "below ; 1 " ++ "below ; 1") (-1) = true := by decide +kernel
theorem fx15 : fixB (repS 20 "both " ++ repS 20 "below ; 1 " ++ "below ; 1") (-4) = true := by decide +kernel
theorem fx16 : fixB (repS 24 "both " ++ repS 24 "below ; 1 " ++ "below ; 1") (-4) = true := by decide +kernel
theorem fx17 : fixB "below ;\n1" 1 = true := by decide +kernel
theorem fx18 : fixB "below ;\t1" 1 = true := by decide +kernel
theorem fx19 : fixB "below ; 1\n" 2 = true := by decide +kernel
theorem fx20 : fixB "\tbelow ; 1" 0 = true := by decide +kernel
theorem fx21 : fixB (repS 38 "not " ++ "below ; 1") (-1) = true := by decide +kernel
theorem fx22 : fixB (repS 39 "not " ++ "below ; 1") (-1) = true := by decide +kernel
theorem fx23 : fixB (repS 40 "not " ++ "below ; 1") (-4) = true := by decide +kernel
theorem fx24 : fixB (repS 41 "not " ++ "below ; 1") (-4) = true := by decide +kernel
def odd1 : List Str := ["", "x", "Below", ":", "belo", ";;", "10", "1.5", "--1"]
def odd3 : List Str := ["", "x", "01", "-0", "100", "-100", "+1", "1.", "--1", "below", "-", "-01", "00", "-00", "1_0", "1-"]
def Mark (ws : List Str) (t : Nat) : Prop := wAt ws t = (";" : Str) ∨ wAt ws t ∈ namesL
/-- the word that the law puts at place t -/
def OddZ (ws : List Str) (t : Nat) (z : Str) : Prop := (Mark ws t ∧ z ∈ odd1) ∨ (¬ Mark ws t ∧ z ∈ odd3) ∨ (¬ Mark ws t ∧ 1 ≤ t ∧ ((";" : Str) ∉ (ws.take t).drop (t - 4) ∨ wAt ws (t - 1) ∈ (["below", "rest"] : List Str)) ∧ ∃ n : Int, (10 ≤ n ∧ n ≤ 99 ∨ -99 ≤ n ∧ n ≤ -10) ∧ z = numW n)
def a_l_odd : Addr → Asp := fun st rs P => ∃ (ws : List Str) (t : Nat), rs = [.obj (isRef st), .vw (ws.map .str), .dat (.int t)] ∧ t < ws.length ∧ ws.length ≤ 20000 ∧ (∀ z ∈ ws, PyData.strOk z = true) ∧ wAt ws 0 ∈ namesL ∧ ∀ z, OddZ ws t z → P (.dat (.str z))
theorem ok_semi : PyData.strOk ";" = true := by decide +kernel
theorem ok_names : ∀ z ∈ namesL, PyData.strOk z = true := by decide +kernel
theorem ok_two : ∀ z ∈ (["below", "rest"] : List Str), PyData.strOk z = true := by decide +kernel
set_option maxHeartbeats 8000000 in
theorem ok_l_odd (T : Txt P w K mg) : FnOk P w K mg base CX0 2 T.a_l_odd T.fd_l_odd ["_law_state", "_law_words_here", "_law_at"] (dSp K (T.Tb.map (·.1)) (drW K T.Tb) a_l_odd) := by
  refine def_draw (N := n_l_odd) (k := 1) T.F_l_odd sc_l_odd (by intro st rs R h; unfold a_l_odd at h; repeat (first | (obtain ⟨rfl, _⟩ := h; rfl) | (obtain ⟨_, h⟩ := h))) drOk (fun cdv A outer s H E st J hW hJ hr => ⟨_, (ss_cons (st_if (PWa.t (aw_or (at_cmp (oa_eq hr.units) (ae_ix (ae_var 1) (ae_var 2)) ae_str) (aw_or1 (at_cmp (oa_in (units65 hr)) (ae_ix (ae_var 1) (ae_var 2)) (ae_lst (aa_cons ae_str (aa_cons ae_str (aa_cons ae_str (aa_cons ae_str (aa_cons ae_str aa_nil))))))))))
      (ss_one (st_ret (ae_ix (ae_lst (aa_cons ae_str (aa_cons ae_str (aa_cons ae_str (aa_cons ae_str (aa_cons ae_str (aa_cons ae_str (aa_cons ae_str (aa_cons ae_str (aa_cons ae_str aa_nil)))))))))) (ae_callD rfl hW (ok_l_draw T) (hr.mono (by decide)) (by rfl) T.m_l_draw T.F_l_draw.kp T.b_l_draw pass0 (aa_cons (ae_var 0) (aa_cons ae_int aa_nil))))))
      ss_nil)
    (ss_cons (st_set 3 sc_l_odd.nd (ae_slice (ae_var 1) ao_none (ao_some (ae_var 2))))
    (ss_cons (st_if (PWa.t (aw_or (at_cmp (oa_nin (units65 hr)) ae_str (ae_slice (ae_var 3) (ao_some (ae_blt (ka_max rfl) (by rfl) T.z_max bo_max (aa_cons ae_int (aa_cons (ae_op oa_sub (ae_var 2) ae_int) aa_nil)))) ao_none)) (aw_or1 (at_cmp (oa_in (units65 hr)) (ae_ix (ae_var 1) (ae_op oa_sub (ae_var 2) ae_int)) (ae_lst (aa_cons ae_str (aa_cons ae_str aa_nil)))))))
      (ss_one (st_if (at_cmp (oa_eq hr.units) (ae_callD rfl hW (ok_l_draw T) (hr.mono (by decide)) (by rfl) T.m_l_draw T.F_l_draw.kp T.b_l_draw pass0 (aa_cons (ae_var 0) (aa_cons ae_int aa_nil))) ae_int)
        (ss_one (st_ret (ae_ix (ae_lst (aa_cons (ae_ty ka_str (by rfl) T.z_str bo_str (aa_cons (ae_op oa_add ae_int (ae_callD rfl hW (ok_l_draw T) (hr.mono (by decide)) (by rfl) T.m_l_draw T.F_l_draw.kp T.b_l_draw pass0 (aa_cons (ae_var 0) (aa_cons ae_int aa_nil)))) aa_nil)) (aa_cons (ae_ty ka_str (by rfl) T.z_str bo_str (aa_cons (ae_op oa_sub (ae_op oa_sub ae_int ae_int) (ae_callD rfl hW (ok_l_draw T) (hr.mono (by decide)) (by rfl) T.m_l_draw T.F_l_draw.kp T.b_l_draw pass0 (aa_cons (ae_var 0) (aa_cons ae_int aa_nil)))) aa_nil)) aa_nil))) (ae_callD rfl hW (ok_l_draw T) (hr.mono (by decide)) (by rfl) T.m_l_draw T.F_l_draw.kp T.b_l_draw pass0 (aa_cons (ae_var 0) (aa_cons ae_int aa_nil))))))
        ss_nil))
      ss_nil)
    (ss_one (st_ret (ae_ix (ae_lst (aa_cons ae_str (aa_cons ae_str (aa_cons ae_str (aa_cons ae_str (aa_cons ae_str (aa_cons ae_str (aa_cons ae_str (aa_cons ae_str (aa_cons ae_str (aa_cons ae_str (aa_cons ae_str (aa_cons ae_str (aa_cons ae_str (aa_cons ae_str (aa_cons ae_str (aa_cons ae_str aa_nil))))))))))))))))) (ae_callD rfl hW (ok_l_draw T) (hr.mono (by decide)) (by rfl) T.m_l_draw T.F_l_draw.kp T.b_l_draw pass0 (aa_cons (ae_var 0) (aa_cons ae_int aa_nil))))))))), fun rs R h => ?_⟩)
  obtain ⟨ws, t, rfl, ht, hz, hs, h0, q⟩ := h
  walk_at "ab"
  have wget : ∀ i, i < ws.length → ws[i]? = some (wAt ws i) := fun i hi => by
    unfold wAt
    rw [List.getElem?_eq_getElem hi]
    rfl
  have wat : ∀ (i : Nat), i < ws.length → atI (ws.map PyData.str) (i : Int) = some (.str (wAt ws i)) := fun i hi =>
    atI_map.mpr ⟨wAt ws i, by rw [atI_pos (by omega) (by omega), Int.toNat_natCast]; exact wget i hi, rfl⟩
  have wok : ∀ i, i < ws.length → PyData.strOk (wAt ws i) = true := fun i hi => hs _ (List.mem_of_getElem? (wget i hi))
  have D1 : Mark ws t → (9 ≤ sizeLine ∧ a_l_draw st [RV.obj (isRef st), RV.dat (PyData.int 9)] fun y => oIx (RV.new [PyData.str "", PyData.str "x", PyData.str "Below", PyData.str ":", PyData.str "belo", PyData.str ";;", PyData.str "10", PyData.str "1.5", PyData.str "--1"]) y fun r => r.ret = true ∧ R r) := fun hm => by
    refine ⟨size_le (by omega), 9, rfl, by omega, by omega, fun d d0 d1 => ?_⟩
    exact ix_any (L := odd1) d0 (by show d < 9; exact d1) fun z hz => ⟨rfl, q z (.inl ⟨hm, hz⟩)⟩
  refine ⟨.str (wAt ws t), wat t ht, Ab.eq_ss.mpr ⟨wok t ht, ok_semi, decide (wAt ws t = ";"), rfl, ?_⟩⟩
  by_cases hb : wAt ws t = ";"
  · rw [if_pos (by rw [decide_eq_true_eq]; exact hb)]
    exact D1 (.inl hb)
  rw [if_neg (by rw [decide_eq_true_eq]; exact hb)]
  refine ⟨.str (wAt ws t), wat t ht, sh_ok (wok t ht), sh_strs ok_names, ?_⟩
  rw [show ([PyData.str "below", PyData.str "rest", PyData.str "not", PyData.str "both", PyData.str "there"].any fun z => z.eqv (PyData.str (wAt ws t))) = decide (wAt ws t ∈ namesL) from any_str namesL]
  by_cases hn : wAt ws t ∈ namesL
  · rw [if_pos (by rw [decide_eq_true_eq]; exact hn)]
    exact D1 (.inr hn)
  rw [if_neg (by rw [decide_eq_true_eq]; exact hn)]
  have nm : ¬ Mark ws t := fun z => z.elim hb hn
  have t1 : 1 ≤ t := by
    rcases Nat.eq_zero_or_pos t with e | e
    · subst e; exact absurd h0 hn
    · exact e
  have D3 : (16 ≤ sizeLine ∧ a_l_draw st [RV.obj (isRef st), RV.dat (PyData.int 16)] fun y => oIx (RV.new [PyData.str "", PyData.str "x", PyData.str "01", PyData.str "-0", PyData.str "100", PyData.str "-100", PyData.str "+1", PyData.str "1.", PyData.str "--1", PyData.str "below", PyData.str "-", PyData.str "-01", PyData.str "00", PyData.str "-00", PyData.str "1_0", PyData.str "1-"]) y fun r => r.ret = true ∧ R r) := by
    refine ⟨size_le (by omega), 16, rfl, by omega, by omega, fun d d0 d1 => ?_⟩
    exact ix_any (L := odd3) d0 (by show d < 16; exact d1) fun z hz => ⟨rfl, q z (.inr (.inl ⟨nm, hz⟩))⟩
  have ecut : Ab.cutD (Ab.cutD ws none (some (t : Int))) (some (max 0 ((t : Int) - 4))) none = (ws.take t).drop (t - 4) := by
    rw [cutD_to (by omega), cutD_from (by omega)]
    congr 1
    omega
  have hsub : ∀ z ∈ (ws.take t).drop (t - 4), PyData.strOk z = true := fun z hz => hs z (List.mem_of_mem_take (List.mem_of_mem_drop hz))
  have logs : ∀ i : Int, i.natAbs ≤ 1000 → i.natAbs.log2 < 1920 := fun i hi => by
    by_cases z : i.natAbs = 0
    · rw [z]; decide
    · exact (Nat.log2_lt z).mpr (Nat.lt_of_le_of_lt hi (Nat.lt_of_lt_of_le (show 1000 < 2 ^ 10 by decide) (Nat.pow_le_pow_right (by decide) (by decide))))
  have D2 : ((";" : Str) ∉ (ws.take t).drop (t - 4) ∨ wAt ws (t - 1) ∈ (["below", "rest"] : List Str)) → (a_l_draw st [RV.obj (isRef st), RV.dat (PyData.int 2)] fun x => oEq x (RV.dat (PyData.int 1)) fun r => ∃ b, r = RV.dat (PyData.bool b) ∧ if b = true then
      (a_l_draw st [RV.obj (isRef st), RV.dat (PyData.int 90)] fun y => oAdd (RV.dat (PyData.int 10)) y fun x => kStr [x] fun x => a_l_draw st [RV.obj (isRef st), RV.dat (PyData.int 90)] fun y => oI (fun x x_1 => True) (fun i j => PyData.int (i - j)) (RV.dat (PyData.int (0 - 10))) y fun x_1 => kStr [x_1] fun x_2 => ∃ ds, datas [x, x_2] = some ds ∧ ds.length ≤ sizeLine ∧ a_l_draw st [RV.obj (isRef st), RV.dat (PyData.int 2)] fun y => oIx (RV.new ds) y fun r => r.ret = true ∧ R r)
      else (16 ≤ sizeLine ∧ a_l_draw st [RV.obj (isRef st), RV.dat (PyData.int 16)] fun y => oIx (RV.new [PyData.str "", PyData.str "x", PyData.str "01", PyData.str "-0", PyData.str "100", PyData.str "-100", PyData.str "+1", PyData.str "1.", PyData.str "--1", PyData.str "below", PyData.str "-", PyData.str "-01", PyData.str "00", PyData.str "-00", PyData.str "1_0", PyData.str "1-"]) y fun r => r.ret = true ∧ R r)) := fun hc => by
    refine ⟨2, rfl, by omega, by omega, fun e _ _ => ?_⟩
    refine Ab.eq_ii.mpr ⟨_, rfl, ?_⟩
    by_cases he : e = 1
    · rw [if_pos (by rw [decide_eq_true_eq]; exact he)]
      refine ⟨90, rfl, by omega, by omega, fun x x0 x1 => ?_⟩
      refine Ab.add_ii.mpr (Ab.str_eval.mpr ⟨logs _ (by omega), 90, rfl, by omega, by omega, fun y y0 y1 => ?_⟩)
      walk_at "ab"
      refine ⟨logs _ (by omega), 2, rfl, by omega, by omega, fun u u0 u1 => ?_⟩
      refine ix_any (L := [numW (10 + x), numW (0 - 10 - y)]) u0 (by show u < 2; exact u1) fun z hz => ⟨rfl, q z (.inr (.inr ⟨nm, t1, hc, ?_⟩))⟩
      simp only [List.mem_cons, List.not_mem_nil, or_false] at hz
      rcases hz with rfl | rfl
      · exact ⟨10 + x, .inl ⟨by omega, by omega⟩, rfl⟩
      · exact ⟨0 - 10 - y, .inr ⟨by omega, by omega⟩, rfl⟩
    · rw [if_neg (by rw [decide_eq_true_eq]; exact he)]
      exact D3
  rw [ecut]
  refine ⟨by rw [Ab.sh_str]; exact ok_semi, sh_strs hsub, ?_⟩
  rw [show ((ws.take t).drop (t - 4)).any ((fun z => z.eqv (PyData.str ";")) ∘ PyData.str) = decide ((";" : Str) ∈ (ws.take t).drop (t - 4)) by rw [← any_str, List.any_map]]
  by_cases hm : (";" : Str) ∈ (ws.take t).drop (t - 4)
  · rw [decide_eq_true hm, if_neg (by simp)]
    have e1 : ((t : Int) - 1) = ((t - 1 : Nat) : Int) := by omega
    rw [e1]
    refine ⟨.str (wAt ws (t - 1)), wat (t - 1) (by omega), sh_ok (wok _ (by omega)), sh_strs ok_two, ?_⟩
    rw [show ([PyData.str "below", PyData.str "rest"].any fun z => z.eqv (PyData.str (wAt ws (t - 1)))) = decide (wAt ws (t - 1) ∈ (["below", "rest"] : List Str)) from any_str ["below", "rest"]]
    by_cases h2 : wAt ws (t - 1) ∈ (["below", "rest"] : List Str)
    · rw [if_pos (by rw [decide_eq_true_eq]; exact h2)]
      exact D2 (.inr h2)
    · rw [if_neg (by rw [decide_eq_true_eq]; exact h2)]
      exact D3
  · rw [decide_eq_false hm, if_pos (by simp)]
    exact D2 (.inl hm)
/-! ### law -/
/-! #### start -/
/-! a law's own def: its first row makes the list that draws are made from -/
theorem pss_ex {X : Cx} {b : List Stmt} {ι : Type} {t : ι → TS} (h : ∀ i, PSs X b (t i)) : PSs X b (fun E σ H => ∃ i, t i E σ H) := ⟨fun pins s σ H D I ⟨i, hu⟩ => (h i).run pins s σ H D I hu⟩
/-- where the state and the script's list stand, what the script says, the heap then -/
structure LI where
  st : Addr
  scr : Addr
  ns : List Int
  H : Hp
abbrev LI.c (i : LI) (K : PySem.W.Frag) (Tb : List (Addr × Str)) : Ab.Ctx := cx0 K (i.st :: Tb.map (·.1)) (Dr K Tb i.st i.scr i.ns) i.H
theorem ss_from {X : Cx} {K : PySem.W.Frag} {Tb : List (Addr × Str)} {b : List Stmt} {B : LI → XS} (h : ∀ i : LI, drW K Tb i.st (Dr K Tb i.st i.scr i.ns) → PSts X (i.c K Tb) b (B i)) : PSs X b (fun E σ H => ∃ i : LI, gSt (i.c K Tb) (B i) E σ H) := pss_ex fun i => (h i ⟨_, _, rfl⟩).ps
def sayLaw (K : PySem.W.Frag) (Tb : List (Addr × Str)) : Sp := fun vs H Q _ => ∃ (a : Addr) (ns : List Int), vs = [.ref a] ∧ SqL K H a (ns.map V.int) ∧ ns.length ≤ 63 ∧ LamX.Tabs Tb H ∧ ∀ H', Q (.bl true) H'
def yes : AD := fin fun r => r = .dat (.bool true)
theorem yes_rt {r : RV} : yes.rt r ↔ r = .dat (.bool true) := ⟨fun h => h.2, fun h => ⟨by rw [h]; rfl, h⟩⟩
theorem law_begin {K : PySem.W.Frag} {Tb : List (Addr × Str)} {i : LI} {n : Nat} {B : XS} {Q : VK} {v0 : V} (hscr : i.H i.scr = some (.lst (i.ns.map V.int))) (hst : i.H i.st = some (.lst [.int 0, .int 0, .ref i.scr, .int 1])) (hne : i.scr ≠ i.st) (ht : LamX.Tabs Tb i.H) (hQ : ∀ H', Q (.bl true) H')
    (h : B yes (none :: some (.obj (isRef i.st)) :: List.replicate n none)) : gSt (i.c K Tb) B { nx := fun _ H' => Q .non H', rt := Q } (some v0 :: some (.ref i.st) :: List.replicate n none) i.H := by
  have j : Dr K Tb i.st i.scr i.ns i.H := ⟨⟨hne, .inl (.inl hscr), 0, 0, 1, Int.le_refl _, hst⟩, ht⟩
  have ok : (i.c K Tb).Ok := drOk i.st _ i.H ⟨_, _, rfl⟩ j
  have a0 : At (i.c K Tb) (some v0 :: some (.ref i.st) :: List.replicate n none) i.H (none :: some (.obj (isRef i.st)) :: List.replicate n none) := by
    refine ⟨ok, by simp, fun k g e => ?_, fun k l v ds es e => ?_, Fx.refl _, j⟩
    · match k, e with
      | 0, e => simp at e
      | 1, e => simp at e; subst e; exact ⟨_, rfl, rfl⟩
      | k + 2, e =>
        simp only [List.getElem?_cons_succ, List.getElem?_replicate] at e
        split at e <;> simp at e
    · match k, e with
      | 0, e => simp at e
      | 1, e => simp at e
      | k + 2, e =>
        simp only [List.getElem?_cons_succ, List.getElem?_replicate] at e
        split at e <;> simp at e
  refine ⟨_, [], [], _, by simp, by rw [List.append_nil, List.append_nil]; exact a0, h, ⟨fun Γ σ H' p hl a => ?_, fun Γ σ H' p => p.elim, fun Γ σ H' p => p.elim, fun v H' r fx jj rr p => ?_⟩⟩
  · cases p
  · have e := yes_rt.mp p
    subst e
    cases rr.ro.bl
    exact hQ H'
theorem tabs_new {Tb : List (Addr × Str)} {H : Hp} {p : Addr} {o : HO} (t : LamX.Tabs Tb H) (h : H p = none) : LamX.Tabs Tb (upd H p o) := tabs_keep t fun b u _ e => by
  rw [upd_ne (ne_of_none e h)]
  exact e
/-! #### steps -/
/-! single steps, where a whole walk is slow -/
theorem isn_same (b : Bool) {S N : Prop} (h : N) : oIsn (.dat (.bool b)) (.dat (.bool b)) (fun r => ∃ c, r = .dat (.bool c) ∧ if c = true then S else N) := by
  rw [isn_b]
  exact ⟨false, by simp, by simpa using h⟩
theorem d_add_ii {i j : Int} {P : RV → Prop} (h : P (.dat (.int (i + j)))) : oAdd (.dat (.int i)) (.dat (.int j)) P := by rw [add_ii]; exact h
theorem d_mul_ti {xs : List PyData} {j : Int} {P : RV → Prop} (h0 : -1000 ≤ j) (h1 : j ≤ 1000) (h2 : xs.length ≤ 1000) (h : P (.dat (.tuple (reps j xs)))) : oMul (.dat (.tuple xs)) (.dat (.int j)) P := by rw [mul_ti]; exact ⟨h0, h1, h2, h⟩
theorem d_add_tt {xs ys : List PyData} {P : RV → Prop} (h0 : xs.length + ys.length ≤ 90000) (h : P (.dat (.tuple (xs ++ ys)))) : oAdd (.dat (.tuple xs)) (.dat (.tuple ys)) P := by rw [add_tt]; exact ⟨size_le (by omega), h⟩
theorem reps_one {α : Type} (k : Int) (x : α) : reps k [x] = List.replicate k.toNat x := by
  unfold reps
  simp
/-! #### odds2 -/
/-! what the law is told of a saying with one word exchanged, cut, or with a word more -/
theorem words_all {Pz : Str → Prop} (hk : ∀ k : RK, Pz k.name) (hb : Pz "below") (hr : Pz "rest") (hs : Pz ";") (hn : ∀ x : Int, -99 ≤ x → x ≤ 99 → Pz (numW x)) {ls : List Ln} (ok : okFrom 0 ls = true) : ∀ (f n : Nat), n < f → n < ls.length → ∀ z ∈ wordsOf ls n, Pz z
  | 0, n, h, _ => by omega
  | f + 1, n, hf, hn' => by
    obtain ⟨l, el⟩ : ∃ l, ls[n]? = some l := ⟨ls[n], List.getElem?_eq_getElem hn'⟩
    have okl := okFrom_at ok el
    have row : ∀ xs : List Int, (∀ x ∈ xs, -99 ≤ x ∧ x ≤ 99) → ∀ z ∈ xs.map numW, Pz z := fun xs h z hz => by
      obtain ⟨x, hx, rfl⟩ := List.mem_map.mp hz
      exact hn x (h x hx).1 (h x hx).2
    have both : ∀ (nm : Str) (fs r : List Int), Pz nm → (∀ x ∈ fs, -99 ≤ x ∧ x ≤ 99) → (∀ x ∈ r, -99 ≤ x ∧ x ≤ 99) → ∀ z ∈ nm :: (fs.map numW ++ (";" : Str) :: r.map numW), Pz z := fun nm fs r h0 h1 h2 z hz => by
      rcases List.mem_cons.mp hz with e | e
      · rw [e]; exact h0
      · rcases List.mem_append.mp e with e | e
        · exact row fs h1 z e
        · rcases List.mem_cons.mp e with e | e
          · rw [e]; exact hs
          · exact row r h2 z e
    cases l with
    | e => simp [okL] at okl
    | und os => simp [okL] at okl
    | bel fs r =>
      obtain ⟨_, h2, c, rfl, h3⟩ := okL_bel okl
      have ew : wordsOf ls n = ("below" : Str) :: (fs.map numW ++ (";" : Str) :: [numW c]) := by unfold wordsOf; rw [wordsF_one el]; rfl
      rw [ew]
      exact both _ fs [c] hb (fun x hx => by have := h2 x hx; omega) (by simpa using h3)
    | res fs r =>
      obtain ⟨_, h2, c, d, rfl, h3⟩ := okL_res okl
      have ew : wordsOf ls n = ("rest" : Str) :: (fs.map numW ++ (";" : Str) :: [numW c, numW d]) := by unfold wordsOf; rw [wordsF_one el]; rfl
      rw [ew]
      exact both _ fs [c, d] hr (fun x hx => by have := h2 x hx; omega) (by intro x hx; simp at hx; rcases hx with e | e <;> subst e <;> omega)
    | ref k os =>
      rw [wordsOf_ref ok el]
      intro z hz
      rcases List.mem_cons.mp hz with e | e
      · rw [e]; exact hk k
      · obtain ⟨o, ho, hz⟩ := List.mem_flatMap.mp e
        have := (okL_ref okl).2 o ho
        exact words_all hk hb hr hs hn ok f o.toNat (by omega) (by omega) z hz
theorem known_kind (k : RK) : knownW k.name = true := by cases k <;> decide +kernel
theorem words_known {ls : List Ln} (ok : okFrom 0 ls = true) {n : Nat} (h : n < ls.length) : ∀ z ∈ wordsOf ls n, knownW z = true :=
  words_all (Pz := fun z => knownW z = true) known_kind (by decide +kernel) (by decide +kernel) (by decide +kernel) (fun x h k => (numW_known h k).1) ok (n + 1) n (by omega) h
/-- the first word is a name -/
theorem words_first {ls : List Ln} (ok : okFrom 0 ls = true) {n : Nat} (h : n < ls.length) : wAt (wordsOf ls n) 0 ∈ namesL := by
  obtain ⟨l, el⟩ : ∃ l, ls[n]? = some l := ⟨ls[n], List.getElem?_eq_getElem h⟩
  have okl := okFrom_at ok el
  cases l with
  | e => simp [okL] at okl
  | und os => simp [okL] at okl
  | bel fs r =>
    have ew : wordsOf ls n = ("below" : Str) :: (fs.map numW ++ (";" : Str) :: r.map numW) := by unfold wordsOf; rw [wordsF_one el]; rfl
    rw [ew]
    show ("below" : Str) ∈ namesL
    decide +kernel
  | res fs r =>
    have ew : wordsOf ls n = ("rest" : Str) :: (fs.map numW ++ (";" : Str) :: r.map numW) := by unfold wordsOf; rw [wordsF_one el]; rfl
    rw [ew]
    show ("rest" : Str) ∈ namesL
    decide +kernel
  | ref k os =>
    rw [wordsOf_ref ok el]
    show k.name ∈ namesL
    cases k <;> decide +kernel
def deadW (z : Str) : Bool := !(goodW (digsOf z) && !leadW z (digsOf z))
theorem dead_none {z : Str} (h : deadW z = true) (lo hi : Int) : numOf z lo hi = none := by
  unfold numOf
  unfold deadW at h
  rw [if_neg (by intro c; rw [c] at h; cases h)]
theorem dead3 : ∀ z ∈ odd3, deadW z = true ∧ z ≠ (";" : Str) := by decide +kernel
theorem bad1 : ∀ z ∈ odd1, z ∈ oddN ∧ z ≠ (";" : Str) ∧ numOf z (-9) 9 = none := by decide +kernel
theorem deadM : deadW ";" = true ∧ ∀ z ∈ namesL, deadW z = true := by decide +kernel
theorem dead0 : deadW "" = true := by decide +kernel
theorem numOut_all : ∀ i : Fin 199, (decide (-9 ≤ (i.val : Int) - 99) && decide ((i.val : Int) - 99 ≤ 9)) = true ∨ (decide (numOf (numW ((i.val : Int) - 99)) (-9) 9 = none)) = true := by decide +kernel
theorem numOut {n : Int} (h : 10 ≤ n ∧ n ≤ 99 ∨ -99 ≤ n ∧ n ≤ -10) : BadF (numW n) := by
  refine ⟨(numW_known (by omega) (by omega)).2.1, ?_⟩
  have := numOut_all ⟨(n + 99).toNat, by omega⟩
  rw [show (((n + 99).toNat : Nat) : Int) - 99 = n by omega] at this
  rcases this with z | z
  · simp only [Bool.and_eq_true, decide_eq_true_eq] at z
    omega
  · exact of_decide_eq_true z
theorem wAt_append_left {A B : List Str} {i : Nat} (h : i < A.length) : wAt (A ++ B) i = wAt A i := by
  unfold wAt
  rw [List.getElem?_append_left h]
theorem wAt_take {A : List Str} {i t : Nat} (h : i < t) : wAt (A.take t) i = wAt A i := by
  unfold wAt
  rw [List.getElem?_take, if_pos h]
section
variable {ws : List Str} {m t : Nat} {z : Str}
theorem toldR_bad {row : List Str} (h : lineR row 60 0 = some (.bad t)) : toldR row = some (t : Int) := by
  unfold toldR
  rw [h]
theorem told_ok (hp : lineR ws 60 0 = some (.ok ws.length m)) (hm : m ≤ 40) : toldR ws = some (-1) := by
  unfold toldR
  rw [hp]
  dsimp only
  rw [if_neg (by omega), if_neg (by omega)]
theorem told_more (hp : lineR ws 60 0 = some (.ok ws.length m)) : toldR (ws ++ [z]) = some (ws.length : Int) := by
  have := lineR_agree (row' := ws ++ [z]) hp fun i hi => wAt_append_left hi
  unfold toldR
  rw [this]
  dsimp only
  rw [if_pos (by simp)]
theorem told_cut (hp : lineR ws 60 0 = some (.ok ws.length m)) (ht : t < ws.length) : toldR (ws.take t) = some (t : Int) := by
  have ag : Agree ws (ws.take t) t := fun i hi => wAt_take hi
  have e0 : wAt (ws.take t) t = "" := by
    unfold wAt
    rw [List.getElem?_eq_none (by rw [List.length_take]; omega)]
    rfl
  refine toldR_bad ?_
  rcases lineR_role hp (Nat.zero_le t) ht with ⟨_, h⟩ | ⟨_, h⟩ | ⟨_, h⟩
  · exact h _ ag (by rw [e0]; decide +kernel)
  · exact h _ ag (by rw [e0]; exact ⟨by decide +kernel, dead_none dead0 _ _⟩)
  · exact h _ ag (by rw [e0]; exact fun lo hi _ _ => dead_none dead0 _ _)
theorem told_odd (hp : lineR ws 60 0 = some (.ok ws.length m)) (ht : t < ws.length) (hz : OddZ ws t z) : toldR (ws.take t ++ z :: ws.drop (t + 1)) = some (t : Int) := by
  have lt : (ws.take t).length = t := by rw [List.length_take]; omega
  have ag : Agree ws (ws.take t ++ z :: ws.drop (t + 1)) t := fun i hi => by rw [wAt_append_left (by omega), wAt_take hi]
  have e0 : wAt (ws.take t ++ z :: ws.drop (t + 1)) t = z := by
    unfold wAt
    rw [List.getElem?_append_right (by omega), lt, Nat.sub_self]
    rfl
  have inS : ∀ j, t - 4 ≤ j → j < t → wAt ws j = (";" : Str) → (";" : Str) ∈ (ws.take t).drop (t - 4) := fun j h1 h2 h3 => by
    have : ((ws.take t).drop (t - 4))[j - (t - 4)]? = some (";" : Str) := by
      rw [List.getElem?_drop, show t - 4 + (j - (t - 4)) = j by omega, List.getElem?_take, if_pos h2]
      unfold wAt at h3
      rw [List.getElem?_eq_getElem (show j < ws.length by omega)] at h3 ⊢
      exact congrArg some h3
    exact List.mem_of_getElem? this
  have mk : Mark ws t → ∀ lo hi, numOf (wAt ws t) lo hi = none := fun h lo hi => by
    rcases h with h | h
    · rw [h]; exact dead_none deadM.1 _ _
    · exact dead_none (deadM.2 _ h) _ _
  refine toldR_bad ?_
  rcases lineR_role hp (Nat.zero_le t) ht with ⟨r, h⟩ | ⟨r, h⟩ | ⟨⟨⟨lo, hi, n, hn⟩, t1, r⟩, h⟩
  · refine h _ ag ?_
    rw [e0]
    rcases hz with ⟨_, hz⟩ | ⟨nm, _⟩ | ⟨nm, _⟩
    · exact (bad1 z hz).1
    · exact absurd (.inr r) nm
    · exact absurd (.inr r) nm
  · refine h _ ag ?_
    rw [e0]
    rcases hz with ⟨_, hz⟩ | ⟨_, hz⟩ | ⟨_, _, _, n, hn, rfl⟩
    · exact (bad1 z hz).2
    · exact ⟨(dead3 z hz).2, dead_none (dead3 z hz).1 _ _⟩
    · exact numOut hn
  · refine h _ ag ?_
    rw [e0]
    rcases hz with ⟨hm, _⟩ | ⟨_, hz⟩ | ⟨_, _, hc, _⟩
    · rw [mk hm] at hn; cases hn
    · exact fun lo hi _ _ => dead_none (dead3 z hz).1 _ _
    · exfalso
      have two : ∀ w ∈ (["below", "rest"] : List Str), w ≠ (";" : Str) ∧ deadW w = true := by decide +kernel
      rcases r with r | ⟨t2, r, k, hk⟩
      · rcases hc with hc | hc
        · exact hc (inS (t - 1) (by omega) (by omega) r)
        · exact (two _ hc).1 r
      · rcases hc with hc | hc
        · exact hc (inS (t - 2) (by omega) (by omega) r)
        · rw [dead_none (two _ hc).2] at hk; cases hk
end
theorem odd1_fine : ∀ z ∈ odd1, (decide (z.length ≤ 5) && !decide (32 ∈ TL.tl z) && PyData.strOk z && knownW z) = true := by decide +kernel
theorem odd3_fine : ∀ z ∈ odd3, (decide (z.length ≤ 5) && !decide (32 ∈ TL.tl z) && PyData.strOk z && knownW z) = true := by decide +kernel
theorem fine_of {z : Str} (h : (decide (z.length ≤ 5) && !decide (32 ∈ TL.tl z) && PyData.strOk z && knownW z) = true) : fineW z ∧ knownW z = true := by
  simp only [Bool.and_eq_true, Bool.not_eq_true', decide_eq_true_eq, decide_eq_false_iff_not] at h
  exact ⟨⟨h.1.1.1, h.1.1.2, h.1.2⟩, h.2⟩
theorem odd_fine {ws : List Str} {t : Nat} {z : Str} (h : OddZ ws t z) : fineW z ∧ knownW z = true := by
  rcases h with ⟨_, h⟩ | ⟨_, h⟩ | ⟨_, _, _, n, h, rfl⟩
  · exact fine_of (odd1_fine z h)
  · exact fine_of (odd3_fine z h)
  · exact ⟨numW_fine (by omega) (by omega), (numW_known (by omega) (by omega)).1⟩
theorem more_fine : ∀ z ∈ (["below", "1", ";", ""] : List Str), (decide (z.length ≤ 5) && !decide (32 ∈ TL.tl z) && PyData.strOk z && knownW z) = true := by decide +kernel
/-- between the law's rows: the state alone -/
def midA (st : Addr) : Gam → Prop := fun Γ => ∃ g2 g3 g4 g5 g6 g7, Γ = [none, some (.obj (isRef st)), g2, g3, g4, g5, g6, g7]
theorem midA.mk {st : Addr} {g2 g3 g4 g5 g6 g7 : Option G} : midA st [none, some (.obj (isRef st)), g2, g3, g4, g5, g6, g7] := ⟨_, _, _, _, _, _, rfl⟩
theorem told_row {st : Addr} {row : List Str} {n : Int} {P : RV → Prop} (hne : row ≠ []) (hf : ∀ z ∈ row, fineW z) (hk : ∀ z ∈ row, knownW z = true) (hl : row.length ≤ 1000) (ht : toldR row = some n) (p : P (.dat (.int n))) : a_l_told st [.dat (.str (Txt.join " " row))] P :=
  ⟨_, row, n, rfl, split_words hne hf, size_le (by have := join_len hf; omega), by omega, known_row (List.all_eq_true.mpr hk), ht, p⟩
theorem ne_go {i : Int} {S N : Prop} (h : N) : oNe (.dat (.int i)) (.dat (.int i)) (fun r => ∃ b, r = .dat (.bool b) ∧ if b = true then S else N) := by
  rw [Ab.ne_ii]
  exact ⟨false, by simp, by simpa using h⟩
theorem join_ok {row : List Str} (hf : ∀ z ∈ row, fineW z) (hl : row.length ≤ 1000) : (row.map fun x => x.length).sum + row.length * (Str.ofString " ").length ≤ 16777216 := by
  have h1 := sum_fine hf
  have h2 : (Str.ofString " ").length = 1 := len_blank
  rw [h2]
  omega
set_option maxHeartbeats 16000000 in
theorem ok_law (T : Txt P w K mg) (tb_number_of : LamX.TabB base mg T.c_number_of T.t_number_of) : FnOk P w K mg base CX0 69 T.a_law T.fd_law ["_law_script"] (sayLaw K T.Tb) := by
  refine T.F_law.ok sc_law (fun vs H Q E h => ?_) (fun cdv A outer s H vs Q E hr h => ?_)
  · obtain ⟨a, ns, rfl, _⟩ := h
    rfl
  · obtain ⟨a, ns, rfl, hS, _, htb, q⟩ := h
    refine ⟨_, pss_cons (ps_set (i := 1) sc_law.nd rfl (.inl rfl) (pe_lst (pa_cons pe_int (pa_cons pe_int (pa_cons (pe_callTy call_list_of (by rfl) T.z_list bo_list (pa_cons (pv 0) pa_nil)) (pa_cons pe_int pa_nil)))))) (ss_from fun i hW => (ss_cons (st_set 2 sc_law.nd (ae_callD rfl hW (ok_l_plain T) (hr.mono (by decide)) (by rfl) T.m_l_plain T.F_l_plain.kp T.b_l_plain pass0 (aa_cons (ae_var 1) (aa_cons (ae_callD rfl hW (ok_l_draw T) (hr.mono (by decide)) (by rfl) T.m_l_draw T.F_l_draw.kp T.b_l_draw pass0 (aa_cons (ae_var 1) (aa_cons ae_int aa_nil))) (aa_cons ae_int (aa_cons ae_int aa_nil))))))
      (ss_cons (st_set 3 sc_law.nd (ae_call (ok_l_words T 60) (hr.mono (by decide)) (by rfl) T.m_l_words T.F_l_words.kp T.b_l_words pass0 (aa_cons (ae_var 2) (aa_cons (ae_op oa_sub (ae_blt ka_len (by rfl) T.z_len bo_len (aa_cons (ae_var 2) aa_nil)) ae_int) aa_nil))))
      (ss_cons (st_if (PWa.t (aw_or (at_cmp (oa_ne hr.units) (ae_callD rfl hW (ok_l_told T tb_number_of) (hr.mono (by decide)) (by rfl) T.m_l_told T.F_l_told.kp T.b_l_told pass0 (aa_cons (ae_join ae_str (ae_var 3)) aa_nil)) (ae_op oa_sub ae_int ae_int)) (aw_or1 (at_cmp (oa_ne hr.units) (ae_inv (k := 0) T.er.sup T.er.gI T.er.gsu (hr.mono (by decide)) (by decide)) ae_int))))
        (ss_one (st_ret ae_bl))
        ss_nil)
      (ss_cut (st_for PassesOwn.never rfl (ai_r1 (by rfl) T.z_range ae_int) (ag_name 4 sc_law.nd)
        (ss_cons (st_set 7 sc_law.nd (ae_callD rfl hW (ok_l_draw T) (hr.mono (by decide)) (by rfl) T.m_l_draw T.F_l_draw.kp T.b_l_draw pass0 (aa_cons (ae_var 1) (aa_cons (ae_blt ka_len (by rfl) T.z_len bo_len (aa_cons (ae_var 3) aa_nil)) aa_nil))))
        (ss_cons (st_if (at_cmp (oa_ne hr.units) (ae_callD rfl hW (ok_l_told T tb_number_of) (hr.mono (by decide)) (by rfl) T.m_l_told T.F_l_told.kp T.b_l_told pass0 (aa_cons (ae_join ae_str (ae_op oa_add (ae_op oa_add (ae_slice (ae_var 3) ao_none (ao_some (ae_var 7))) (ae_lst (aa_cons (ae_callD rfl hW (ok_l_odd T) (hr.mono (by decide)) (by rfl) T.m_l_odd T.F_l_odd.kp T.b_l_odd pass0 (aa_cons (ae_var 1) (aa_cons (ae_var 3) (aa_cons (ae_var 7) aa_nil)))) aa_nil))) (ae_slice (ae_var 3) (ao_some (ae_op oa_add (ae_var 7) ae_int)) ao_none))) aa_nil)) (ae_var 7))
          (ss_one (st_ret ae_bl))
          ss_nil)
        (ss_cons (st_if (PWa.t (aw_and (at_cmp oa_gt (ae_var 7) ae_int) (aw_and1 (at_cmp (oa_ne hr.units) (ae_callD rfl hW (ok_l_told T tb_number_of) (hr.mono (by decide)) (by rfl) T.m_l_told T.F_l_told.kp T.b_l_told pass0 (aa_cons (ae_join ae_str (ae_slice (ae_var 3) ao_none (ao_some (ae_var 7)))) aa_nil)) (ae_var 7)))))
          (ss_one (st_ret ae_bl))
          ss_nil)
        (ss_one (st_if (at_cmp (oa_ne hr.units) (ae_callD rfl hW (ok_l_told T tb_number_of) (hr.mono (by decide)) (by rfl) T.m_l_told T.F_l_told.kp T.b_l_told pass0 (aa_cons (ae_join ae_str (ae_ownAdd 3 (pv 3) (ae_lst (aa_cons (ae_ix (ae_lst (aa_cons ae_str (aa_cons ae_str (aa_cons ae_str (aa_cons ae_str aa_nil))))) (ae_callD rfl hW (ok_l_draw T) (hr.mono (by decide)) (by rfl) T.m_l_draw T.F_l_draw.kp T.b_l_draw pass0 (aa_cons (ae_var 1) (aa_cons ae_int aa_nil)))) aa_nil)))) aa_nil)) (ae_blt ka_len (by rfl) T.z_len bo_len (aa_cons (ae_var 3) aa_nil)))
          (ss_one (st_ret ae_bl))
          ss_nil))))))
      (ss_cut (st_if (PWa.t (aw_or (at_cmp (oa_ne hr.units) (ae_callD rfl hW (ok_l_told T tb_number_of) (hr.mono (by decide)) (by rfl) T.m_l_told T.F_l_told.kp T.b_l_told pass0 (aa_cons ae_str aa_nil)) ae_int) (aw_or (at_cmp (oa_ne hr.units) (ae_callD rfl hW (ok_l_told T tb_number_of) (hr.mono (by decide)) (by rfl) T.m_l_told T.F_l_told.kp T.b_l_told pass0 (aa_cons ae_str aa_nil)) ae_int) (aw_or (at_cmp (oa_ne hr.units) (ae_callD rfl hW (ok_l_told T tb_number_of) (hr.mono (by decide)) (by rfl) T.m_l_told T.F_l_told.kp T.b_l_told pass0 (aa_cons ae_str aa_nil)) ae_int) (aw_or1 (at_cmp (oa_ne hr.units) (ae_callD rfl hW (ok_l_told T tb_number_of) (hr.mono (by decide)) (by rfl) T.m_l_told T.F_l_told.kp T.b_l_told pass0 (aa_cons ae_str aa_nil)) ae_int))))))
        (ss_one (st_ret ae_bl))
        ss_nil)
      (ss_cut (st_if (PWa.t (aw_or (at_cmp (oa_ne hr.units) (ae_callD rfl hW (ok_l_told T tb_number_of) (hr.mono (by decide)) (by rfl) T.m_l_told T.F_l_told.kp T.b_l_told pass0 (aa_cons ae_str aa_nil)) ae_int) (aw_or (at_cmp (oa_ne hr.units) (ae_callD rfl hW (ok_l_told T tb_number_of) (hr.mono (by decide)) (by rfl) T.m_l_told T.F_l_told.kp T.b_l_told pass0 (aa_cons ae_str aa_nil)) ae_int) (aw_or (at_cmp (oa_ne hr.units) (ae_callD rfl hW (ok_l_told T tb_number_of) (hr.mono (by decide)) (by rfl) T.m_l_told T.F_l_told.kp T.b_l_told pass0 (aa_cons ae_str aa_nil)) ae_int) (aw_or1 (at_cmp (oa_ne hr.units) (ae_callD rfl hW (ok_l_told T tb_number_of) (hr.mono (by decide)) (by rfl) T.m_l_told T.F_l_told.kp T.b_l_told pass0 (aa_cons ae_str aa_nil)) ae_int))))))
        (ss_one (st_ret ae_bl))
        ss_nil)
      (ss_cut (st_if (PWa.t (aw_or (at_cmp (oa_ne hr.units) (ae_callD rfl hW (ok_l_told T tb_number_of) (hr.mono (by decide)) (by rfl) T.m_l_told T.F_l_told.kp T.b_l_told pass0 (aa_cons ae_str aa_nil)) ae_int) (aw_or (at_cmp (oa_ne hr.units) (ae_callD rfl hW (ok_l_told T tb_number_of) (hr.mono (by decide)) (by rfl) T.m_l_told T.F_l_told.kp T.b_l_told pass0 (aa_cons ae_str aa_nil)) ae_int) (aw_or1 (at_cmp (oa_ne hr.units) (ae_callD rfl hW (ok_l_told T tb_number_of) (hr.mono (by decide)) (by rfl) T.m_l_told T.F_l_told.kp T.b_l_told pass0 (aa_cons ae_str aa_nil)) ae_int)))))
        (ss_one (st_ret ae_bl))
        ss_nil)
      (ss_cut (st_if (PWa.t (aw_or (at_cmp (oa_ne hr.units) (ae_callD rfl hW (ok_l_told T tb_number_of) (hr.mono (by decide)) (by rfl) T.m_l_told T.F_l_told.kp T.b_l_told pass0 (aa_cons (ae_op oa_add (ae_op oa_mulS ae_str ae_int) ae_str) aa_nil)) ae_int) (aw_or1 (at_cmp (oa_ne hr.units) (ae_callD rfl hW (ok_l_told T tb_number_of) (hr.mono (by decide)) (by rfl) T.m_l_told T.F_l_told.kp T.b_l_told pass0 (aa_cons (ae_op oa_add (ae_op oa_add (ae_op oa_mulS ae_str ae_int) (ae_op oa_mulS ae_str ae_int)) ae_str) aa_nil)) (ae_op oa_add (ae_op oa_add ae_int ae_int) ae_int)))))
        (ss_one (st_ret ae_bl))
        ss_nil)
      (ss_cut (st_for PassesOwn.never rfl (ai_seq (ae_lst (aa_cons ae_int (aa_cons ae_int (aa_cons ae_int aa_nil))))) (ag_name 5 sc_law.nd)
        (ss_one (st_if (at_cmp (oa_ne hr.units) (ae_callD rfl hW (ok_l_told T tb_number_of) (hr.mono (by decide)) (by rfl) T.m_l_told T.F_l_told.kp T.b_l_told pass0 (aa_cons (ae_op oa_add (ae_op oa_add (ae_op oa_mulS ae_str (ae_op oa_sub (ae_var 5) ae_int)) (ae_op oa_mulS ae_str (ae_op oa_sub (ae_var 5) ae_int))) ae_str) aa_nil)) (ae_ix (ae_lst (aa_cons (ae_op oa_sub ae_int ae_int) (aa_cons (ae_op oa_sub ae_int ae_int) aa_nil))) (ae_ty ka_intB (by rfl) T.z_int bo_int (aa_cons (ae_cmp (oa_eq hr.units) (ae_var 5) ae_int) aa_nil))))
          (ss_one (st_ret ae_bl))
          ss_nil)))
      (ss_cut (st_if (PWa.t (aw_or (at_cmp (oa_ne hr.units) (ae_callD rfl hW (ok_l_told T tb_number_of) (hr.mono (by decide)) (by rfl) T.m_l_told T.F_l_told.kp T.b_l_told pass0 (aa_cons ae_str aa_nil)) ae_int) (aw_or (at_cmp (oa_ne hr.units) (ae_callD rfl hW (ok_l_told T tb_number_of) (hr.mono (by decide)) (by rfl) T.m_l_told T.F_l_told.kp T.b_l_told pass0 (aa_cons ae_str aa_nil)) ae_int) (aw_or (at_cmp (oa_ne hr.units) (ae_callD rfl hW (ok_l_told T tb_number_of) (hr.mono (by decide)) (by rfl) T.m_l_told T.F_l_told.kp T.b_l_told pass0 (aa_cons ae_str aa_nil)) ae_int) (aw_or1 (at_cmp (oa_ne hr.units) (ae_callD rfl hW (ok_l_told T tb_number_of) (hr.mono (by decide)) (by rfl) T.m_l_told T.F_l_told.kp T.b_l_told pass0 (aa_cons ae_str aa_nil)) ae_int))))))
        (ss_one (st_ret ae_bl))
        ss_nil)
      (ss_cons (st_set 6 sc_law.nd (ae_op oa_add ae_int (ae_callD rfl hW (ok_l_draw T) (hr.mono (by decide)) (by rfl) T.m_l_draw T.F_l_draw.kp T.b_l_draw pass0 (aa_cons (ae_var 1) (aa_cons ae_int aa_nil)))))
      (ss_one (st_ret (ae_cmp (oa_eq hr.units) (ae_callD rfl hW (ok_l_told T tb_number_of) (hr.mono (by decide)) (by rfl) T.m_l_told T.F_l_told.kp T.b_l_told pass0 (aa_cons (ae_op oa_add (ae_op oa_mulS ae_str (ae_var 6)) ae_str) aa_nil)) (ae_ix (ae_lst (aa_cons (ae_op oa_sub ae_int ae_int) (aa_cons (ae_op oa_sub ae_int ae_int) aa_nil))) (ae_ty ka_intB (by rfl) T.z_int bo_int (aa_cons (ae_cmp oa_le (ae_op oa_add (ae_var 6) ae_int) ae_int) aa_nil)))))))))))))))))), ?_⟩
    refine ⟨_, rfl, a, ns.map V.int, rfl, .inl hS, fun scr hscr => ⟨by show 4 ≤ sizeLine; decide, fun st hst => ?_⟩⟩
    have hne : scr ≠ st := fun z => by
      rw [z, upd_same] at hst
      cases hst
    refine ⟨⟨st, scr, ns, _⟩, law_begin (n := 6) ((upd_ne hne).trans upd_same) upd_same hne (tabs_new (tabs_new htb hscr) hst) q ?_⟩
    clear hS q hst hscr
    walk_at "ab"
    refine ⟨4, rfl, by omega, by omega, fun d d0 d1 => ?_⟩
    walk_at "ab"
    refine ⟨d, 3, 3, rfl, by omega, by omega, by omega, by omega, by omega, by omega, fun ls hp hl => ?_⟩
    unfold sayD
    walk_at "ab"
    have n1 := hp.ne
    obtain ⟨n, en⟩ : ∃ n, n = ls.length - 1 := ⟨_, rfl⟩
    have ei : ((ls.length : Int) - 1) = (n : Int) := by omega
    have hn : n < ls.length := by omega
    have sm := okFrom_small hp.ok
    have hw : ∀ k, k ≤ n → (wordsOf ls k).length ≤ 330 := fun k hk => by
      have h1 := wordsLen hp.ok (k + 1) k 0 (by omega) (by omega)
      have h2 := hp.t k (by omega)
      have h3 : (spreadOf ls 0 k).length = tsz ls k := rfl
      omega
    have hm : tsz ls n ≤ 40 := by have := hp.t n hn; omega
    have fine := words_fine hp.ok (n + 1) n (by omega) hn
    have known := words_known hp.ok hn
    have first := words_first hp.ok hn
    have one := wordsOf_ne hn sm
    have hlen := hw n (Nat.le_refl n)
    have hparse : lineR (wordsOf ls n) 60 0 = some (.ok (wordsOf ls n).length (tsz ls n)) := by
      have := words_parse (row := wordsOf ls n) hp.ok 60 n 0 (by omega) hn fun i z e => by rw [Nat.zero_add]; exact e
      rwa [Nat.zero_add] at this
    rw [ei]
    refine ⟨ls, n, rfl, by omega, hn, hp.ok, sm, fun k hk => by have := hw k hk; omega, ?_⟩
    generalize tsz ls n = m at *
    generalize wordsOf ls n = ws at *
    generalize PyData.tuple (List.map lnD ls) = D2
    clear hp hl sm hw ei en hn n1
    have hne : ws ≠ [] := fun z => by rw [z] at one; simp at one
    walk_at "ab"
    refine ⟨ws, rfl, join_ok fine (by omega), told_row hne fine known (by omega) (told_ok hparse hm) (ne_go ?_)⟩
    rw [if_neg (by decide)]
    refine ⟨midA st, ?_, ?_⟩
    · refine ⟨by decide, by decide, fun _ Γ => ∃ g4 g7, Γ = [none, some (.obj (isRef st)), some (.dat D2), some (.own (ws.map .str)), g4, none, none, g7], ⟨none, none, rfl⟩, ?_, ?_⟩
      · rintro i hi Γ ⟨g4, g5, rfl⟩
        refine ⟨_, rfl, ?_⟩
        walk_at "ab"
        refine ⟨ws.length, rfl, by omega, by omega, fun t0 t1 t2 => ?_⟩
        obtain ⟨t, rfl⟩ : ∃ t : Nat, t0 = (t : Int) := ⟨t0.toNat, by omega⟩
        walk_at "ab"
        refine ⟨ws, t, rfl, by omega, by omega, fun z hz => (fine z hz).2.2, first, fun z hz => ?_⟩
        walk_at "ab"
        have LAST : ∀ {N : Prop}, N → (a_l_draw st [RV.obj (isRef st), RV.dat (PyData.int 4)] fun y => oIx (RV.new [PyData.str "below", PyData.str "1", PyData.str ";", PyData.str ""]) y fun x => ∃ ds, datas [x] = some ds ∧ ds.length ≤ sizeLine ∧ ws.length + ds.length ≤ sizeLine ∧ ∃ ys, List.map PyData.str ws ++ ds = List.map PyData.str ys ∧
            (List.map (fun x => x.length) ys).sum + ys.length * (Str.ofString " ").length ≤ 16777216 ∧ a_l_told st [RV.dat (PyData.str (Txt.join (Str.ofString " ") ys))] fun x => oNe x (RV.dat (PyData.int ws.length)) fun r => ∃ b, r = RV.dat (PyData.bool b) ∧ if b = true then yes.rt (RV.dat (PyData.bool false)) else N) := fun {N} nn => by
          refine ⟨4, rfl, by omega, by omega, fun u u0 u1 => ?_⟩
          refine ix_any (L := ["below", "1", ";", ""]) u0 (by show u < 4; exact u1) fun y hy => ?_
          have hy' := fine_of (more_fine y hy)
          have F : ∀ x ∈ ws ++ [y], fineW x ∧ knownW x = true := fun x hx => by
            rcases List.mem_append.mp hx with e | e
            · exact ⟨fine x e, known x e⟩
            · rw [List.mem_singleton.mp e]; exact hy'
          exact ⟨[.str y], rfl, size_le (by simp), size_le (by simp; omega), ws ++ [y], by simp, join_ok (fun x hx => (F x hx).1) (by simp; omega), told_row (by simp) (fun x hx => (F x hx).1) (fun x hx => (F x hx).2) (by simp; omega) (told_more hparse) (ne_go nn)⟩
        rw [show Ab.cutD ws none (some (t : Int)) = ws.take t by rw [cutD_to (by omega)]; simp, show Ab.cutD ws (some ((t : Int) + 1)) none = ws.drop (t + 1) by rw [cutD_from (by omega)]; congr 1]
        have ht : t < ws.length := by omega
        have hz' := odd_fine hz
        have F1 : ∀ x ∈ ws.take t ++ z :: ws.drop (t + 1), fineW x ∧ knownW x = true := fun x hx => by
          rcases List.mem_append.mp hx with e | e
          · have := List.mem_of_mem_take e
            exact ⟨fine x this, known x this⟩
          · rcases List.mem_cons.mp e with e | e
            · rw [e]; exact hz'
            · have := List.mem_of_mem_drop e
              exact ⟨fine x this, known x this⟩
        have L1 : (ws.take t ++ z :: ws.drop (t + 1)).length ≤ 1000 := by simp; omega
        refine ⟨size_le (by simp; omega), size_le (by simp; omega), ws.take t ++ z :: ws.drop (t + 1), by simp, join_ok (fun x hx => (F1 x hx).1) L1, told_row (by simp) (fun x hx => (F1 x hx).1) (fun x hx => (F1 x hx).2) L1 (told_odd hparse ht hz) (ne_go ?_)⟩
        by_cases h0 : 0 < t
        · rw [if_pos (decide_eq_true (by omega))]
          refine ⟨ws.take t, rfl, join_ok (fun x hx => fine x (List.mem_of_mem_take hx)) (by simp; omega), told_row ?_ (fun x hx => fine x (List.mem_of_mem_take hx)) (fun x hx => known x (List.mem_of_mem_take hx)) (by simp; omega) (told_cut hparse ht) (ne_go ?_)⟩
          · intro e
            have := congrArg List.length e
            rw [List.length_take, List.length_nil] at this
            omega
          · exact LAST ⟨_, _, rfl⟩
        · rw [if_neg (by simp; omega)]
          exact LAST ⟨_, _, rfl⟩
      · rintro Γ ⟨g4, g5, rfl⟩
        exact midA.mk
    · clear hparse first fine known one hlen hm hne
      rintro Γ ⟨g2, g3, g4, g5, g6, g7, rfl⟩
      refine ⟨midA st, told_fix fx01 (ne_go (told_fix fx02 (ne_go (told_fix fx03 (ne_go (told_fix fx04 (ne_go midA.mk))))))), ?_⟩
      rintro Γ ⟨g2, g3, g4, g5, g6, g7, rfl⟩
      refine ⟨midA st, told_fix fx05 (ne_go (told_fix fx06 (ne_go (told_fix fx07 (ne_go (told_fix fx08 (ne_go midA.mk))))))), ?_⟩
      rintro Γ ⟨g2, g3, g4, g5, g6, g7, rfl⟩
      refine ⟨midA st, told_fix fx09 (ne_go (told_fix fx10 (ne_go (told_fix fx11 (ne_go midA.mk))))), ?_⟩
      rintro Γ ⟨g2, g3, g4, g5, g6, g7, rfl⟩
      refine ⟨midA st, ⟨by omega, by omega, by decide +kernel, by decide +kernel, by rw [sizeLine_eq]; decide +kernel, told_fix fx12 (ne_go ⟨by omega, by omega, by decide +kernel, by decide +kernel, by omega, by omega, by decide +kernel, by decide +kernel, by rw [sizeLine_eq]; decide +kernel, by rw [sizeLine_eq]; decide +kernel, told_fix fx13 (ne_go midA.mk)⟩)⟩, ?_⟩
      rintro Γ ⟨g2, g3, g4, g5, g6, g7, rfl⟩
      refine ⟨midA st, ⟨fun _ Γ => midA st Γ, midA.mk, ?_, fun Γ h => h⟩, ?_⟩
      · rintro i d hd Γ ⟨g2, g3, g4, g5, g6, g7, rfl⟩
        have hd3 : d = .int 20 ∨ d = .int 21 ∨ d = .int 25 := by
          rcases i with _ | _ | _ | i
          · exact .inl (Option.some.inj hd).symm
          · exact .inr (.inl (Option.some.inj hd).symm)
          · exact .inr (.inr (Option.some.inj hd).symm)
          · simp at hd
        refine ⟨_, rfl, ?_⟩
        rcases hd3 with rfl | rfl | rfl
        · walk_at "ab"
          rw [show (20 - 1 : Int) = 19 by decide]
          exact ⟨by omega, by omega, by decide +kernel, by decide +kernel, by omega, by omega, by decide +kernel, by decide +kernel, by rw [sizeLine_eq]; decide +kernel, by rw [sizeLine_eq]; decide +kernel, told_fix fx14 (ne_go midA.mk)⟩
        · walk_at "ab"
          rw [show (21 - 1 : Int) = 20 by decide]
          exact ⟨by omega, by omega, by decide +kernel, by decide +kernel, by omega, by omega, by decide +kernel, by decide +kernel, by rw [sizeLine_eq]; decide +kernel, by rw [sizeLine_eq]; decide +kernel, told_fix fx15 ⟨.int (0 - 4), rfl, ne_go midA.mk⟩⟩
        · walk_at "ab"
          rw [show (25 - 1 : Int) = 24 by decide]
          exact ⟨by omega, by omega, by decide +kernel, by decide +kernel, by omega, by omega, by decide +kernel, by decide +kernel, by rw [sizeLine_eq]; decide +kernel, by rw [sizeLine_eq]; decide +kernel, told_fix fx16 ⟨.int (0 - 4), rfl, ne_go midA.mk⟩⟩
      · rintro Γ ⟨g2, g3, g4, g5, g6, g7, rfl⟩
        refine ⟨midA st, told_fix fx17 (ne_go (told_fix fx18 (ne_go (told_fix fx19 (ne_go (told_fix fx20 (ne_go midA.mk))))))), ?_⟩
        rintro Γ ⟨g2, g3, g4, g5, g6, g7, rfl⟩
        walk_at "ab"
        refine ⟨4, rfl, by omega, by omega, fun u u0 u1 => ?_⟩
        rcases (show u = 0 ∨ u = 1 ∨ u = 2 ∨ u = 3 by omega) with rfl | rfl | rfl | rfl
        · walk_at "ab"
          rw [show (38 + 0 : Int) = 38 by decide]
          exact ⟨by omega, by omega, by decide +kernel, by decide +kernel, by rw [sizeLine_eq]; decide +kernel, told_fix fx21 ⟨.int (0 - 1), rfl, Ab.eq_ii.mpr (yes_rt.mpr rfl)⟩⟩
        · walk_at "ab"
          rw [show (38 + 1 : Int) = 39 by decide]
          exact ⟨by omega, by omega, by decide +kernel, by decide +kernel, by rw [sizeLine_eq]; decide +kernel, told_fix fx22 ⟨.int (0 - 1), rfl, Ab.eq_ii.mpr (yes_rt.mpr rfl)⟩⟩
        · walk_at "ab"
          rw [show (38 + 2 : Int) = 40 by decide]
          exact ⟨by omega, by omega, by decide +kernel, by decide +kernel, by rw [sizeLine_eq]; decide +kernel, told_fix fx23 ⟨.int (0 - 4), rfl, Ab.eq_ii.mpr (yes_rt.mpr rfl)⟩⟩
        · walk_at "ab"
          rw [show (38 + 3 : Int) = 41 by decide]
          exact ⟨by omega, by omega, by decide +kernel, by decide +kernel, by rw [sizeLine_eq]; decide +kernel, told_fix fx24 ⟨.int (0 - 4), rfl, Ab.eq_ii.mpr (yes_rt.mpr rfl)⟩⟩
end
end Lw
namespace Lw
open PySem PySem.Spec PyProof.Rows L2 Ab
theorem all_mk {l : PySem.W.OpenLaw} {w : World} {K : PySem.W.Frag} {h : Heap} {mg mb : Str → Option Value} {mean : ExcName → Option Value} {q : Program} {lo : List Str} {fa f1 f2 f3 f4 f5 f6 f7 f8 f9 f10 f11 f12 f13 f14 f15 cc6 P6 : Addr} (X : K.In h) (Tp : Top q lo mean mg mb h) (G : h.Ns mainGlobals mg) (hfa : mg "law" = some (.ref fa))
    {od1 an1 od2 an2 od3 an3 od4 an4 od5 an5 od6 an6 od7 an7 od8 an8 od9 an9 od10 an10 od11 an11 od12 an12 od13 an13 od14 an14 od15 an15 : Option Addr} {sl1 sl2 sl3 sl4 sl5 sl6 sl7 sl8 sl9 sl10 sl11 sl12 sl13 sl14 sl15 : Array (Option Value)} {oc1 kV1 dc1 pm1 ct1 cd1 oc2 kV2 dc2 pm2 ct2 cd2 oc3 kV3 dc3 pm3 ct3 cd3 oc4 kV4 dc4 pm4 ct4 cd4 oc5 kV5 dc5 pm5 ct5 cd5 oc6 kV6 dc6 pm6 ct6 oc7 kV7 dc7 pm7 ct7 cd7 oc8 kV8 dc8 pm8 ct8 cd8 oc9 kV9 dc9 pm9 ct9 cd9 oc10 kV10 dc10 pm10 ct10 cd10 oc11 kV11 dc11 pm11 ct11 cd11 oc12 kV12 dc12 pm12 ct12 cd12 oc13 kV13 dc13 pm13 ct13 cd13 oc14 kV14 dc14 pm14 ct14 cd14 oc15 kV15 dc15 pm15 ct15 cd15 : Value}
    {tk_MOST_LINES tk_MOST_FACTORS tk_MOST_FACTOR tk_MOST_CONSTANT tk_MOST_DIVISOR : Tok}
    {CC_Words : Addr}
    (aC_Words : PySem.W.nsIn K mainGlobals "Words" = some (some (.ref CC_Words))) (pg_Words : PySem.W.plainGet K CC_Words Str.empty = true) (hd_Words : PySem.W.hasDictIn K CC_Words = true) (po_Words : PySem.W.plainOver K CC_Words = true) (sa_Words : PySem.W.findIn K (.ref CC_Words) "__setattr__" = some (some (.builtin "object.__setattr__"))) (mk_Words : PySem.W.makesIn K CC_Words = true) (kc_Words : PySem.W.keepIn K (.ref CC_Words) = true)
    (na_Words_row : PySem.W.findIn K (.ref CC_Words) "row" = some none)
    (na_Words_position : PySem.W.findIn K (.ref CC_Words) "position" = some none)
    (na_Words_lines : PySem.W.findIn K (.ref CC_Words) "lines" = some none)
    (a1 : PySem.W.findIn K (.ref CC_Words) "__init__" = some (some (.ref f1))) (i1 : PySem.W.isFn K (.ref f1) = true) (l1 : K.lookup f1 = some ⟨oc1, od1, .func (PySem.W.fnOf "__init__" "Words.__init__" (defArgs s_Words___init__) (defBody s_Words___init__) (defScope s_Words___init__) .none kV1 dc1 pm1 an1 cd1 ct1), sl1⟩) (c1 : PySem.W.codeIn K cd1 "Words.__init__" = true) (k1 : PySem.W.keepIn K (.ref f1) = true)
    (a2 : PySem.W.findIn K (.ref CC_Words) "word" = some (some (.ref f2))) (i2 : PySem.W.isFn K (.ref f2) = true) (l2 : K.lookup f2 = some ⟨oc2, od2, .func (PySem.W.fnOf "word" "Words.word" (defArgs s_Words_word) (defBody s_Words_word) (defScope s_Words_word) .none kV2 dc2 pm2 an2 cd2 ct2), sl2⟩) (c2 : PySem.W.codeIn K cd2 "Words.word" = true) (k2 : PySem.W.keepIn K (.ref f2) = true)
    (a3 : PySem.W.findIn K (.ref CC_Words) "number" = some (some (.ref f3))) (i3 : PySem.W.isFn K (.ref f3) = true) (l3 : K.lookup f3 = some ⟨oc3, od3, .func (PySem.W.fnOf "number" "Words.number" (defArgs s_Words_number) (defBody s_Words_number) (defScope s_Words_number) .none kV3 dc3 pm3 an3 cd3 ct3), sl3⟩) (c3 : PySem.W.codeIn K cd3 "Words.number" = true) (k3 : PySem.W.keepIn K (.ref f3) = true)
    (a4 : PySem.W.findIn K (.ref CC_Words) "factors" = some (some (.ref f4))) (i4 : PySem.W.isFn K (.ref f4) = true) (l4 : K.lookup f4 = some ⟨oc4, od4, .func (PySem.W.fnOf "factors" "Words.factors" (defArgs s_Words_factors) (defBody s_Words_factors) (defScope s_Words_factors) .none kV4 dc4 pm4 an4 cd4 ct4), sl4⟩) (c4 : PySem.W.codeIn K cd4 "Words.factors" = true) (k4 : PySem.W.keepIn K (.ref f4) = true)
    (a5 : PySem.W.findIn K (.ref CC_Words) "line" = some (some (.ref f5))) (i5 : PySem.W.isFn K (.ref f5) = true) (l5 : K.lookup f5 = some ⟨oc5, od5, .func (PySem.W.fnOf "line" "Words.line" (defArgs s_Words_line) (defBody s_Words_line) (defScope s_Words_line) .none kV5 dc5 pm5 an5 cd5 ct5), sl5⟩) (c5 : PySem.W.codeIn K cd5 "Words.line" = true) (k5 : PySem.W.keepIn K (.ref f5) = true)
    (a6 : PySem.W.nsIn K mainGlobals "number_of" = some (some (.ref f6))) (l6 : K.lookup f6 = some ⟨oc6, od6, .func (PySem.W.fnOf "number_of" "number_of" (defArgs s_number_of) (defBody s_number_of) (defScope s_number_of) .none kV6 dc6 pm6 an6 (.ref cc6) ct6), sl6⟩) (c6 : PySem.W.codeIn K (.ref cc6) "number_of" = true) (k6 : PySem.W.keepIn K (.ref f6) = true)
    (a7 : PySem.W.nsIn K mainGlobals "parse_saying" = some (some (.ref f7))) (l7 : K.lookup f7 = some ⟨oc7, od7, .func (PySem.W.fnOf "parse_saying" "parse_saying" (defArgs s_parse_saying) (defBody s_parse_saying) (defScope s_parse_saying) .none kV7 dc7 pm7 an7 cd7 ct7), sl7⟩) (c7 : PySem.W.codeIn K cd7 "parse_saying" = true) (k7 : PySem.W.keepIn K (.ref f7) = true)
    (a8 : PySem.W.nsIn K mainGlobals "_law_draw" = some (some (.ref f8))) (l8 : K.lookup f8 = some ⟨oc8, od8, .func (PySem.W.fnOf "_law_draw" "_law_draw" (defArgs s_l_draw) (defBody s_l_draw) (defScope s_l_draw) .none kV8 dc8 pm8 an8 cd8 ct8), sl8⟩) (c8 : PySem.W.codeIn K cd8 "_law_draw" = true) (k8 : PySem.W.keepIn K (.ref f8) = true)
    (a9 : PySem.W.nsIn K mainGlobals "_law_factors" = some (some (.ref f9))) (l9 : K.lookup f9 = some ⟨oc9, od9, .func (PySem.W.fnOf "_law_factors" "_law_factors" (defArgs s_l_factors) (defBody s_l_factors) (defScope s_l_factors) .none kV9 dc9 pm9 an9 cd9 ct9), sl9⟩) (c9 : PySem.W.codeIn K cd9 "_law_factors" = true) (k9 : PySem.W.keepIn K (.ref f9) = true)
    (a10 : PySem.W.nsIn K mainGlobals "_law_atom" = some (some (.ref f10))) (l10 : K.lookup f10 = some ⟨oc10, od10, .func (PySem.W.fnOf "_law_atom" "_law_atom" (defArgs s_l_atom) (defBody s_l_atom) (defScope s_l_atom) .none kV10 dc10 pm10 an10 cd10 ct10), sl10⟩) (c10 : PySem.W.codeIn K cd10 "_law_atom" = true) (k10 : PySem.W.keepIn K (.ref f10) = true)
    (a11 : PySem.W.nsIn K mainGlobals "_law_plain" = some (some (.ref f11))) (l11 : K.lookup f11 = some ⟨oc11, od11, .func (PySem.W.fnOf "_law_plain" "_law_plain" (defArgs s_l_plain) (defBody s_l_plain) (defScope s_l_plain) .none kV11 dc11 pm11 an11 cd11 ct11), sl11⟩) (c11 : PySem.W.codeIn K cd11 "_law_plain" = true) (k11 : PySem.W.keepIn K (.ref f11) = true)
    (a12 : PySem.W.nsIn K mainGlobals "_law_words" = some (some (.ref f12))) (l12 : K.lookup f12 = some ⟨oc12, od12, .func (PySem.W.fnOf "_law_words" "_law_words" (defArgs s_l_words) (defBody s_l_words) (defScope s_l_words) .none kV12 dc12 pm12 an12 cd12 ct12), sl12⟩) (c12 : PySem.W.codeIn K cd12 "_law_words" = true) (k12 : PySem.W.keepIn K (.ref f12) = true)
    (a13 : PySem.W.nsIn K mainGlobals "_law_told" = some (some (.ref f13))) (l13 : K.lookup f13 = some ⟨oc13, od13, .func (PySem.W.fnOf "_law_told" "_law_told" (defArgs s_l_told) (defBody s_l_told) (defScope s_l_told) .none kV13 dc13 pm13 an13 cd13 ct13), sl13⟩) (c13 : PySem.W.codeIn K cd13 "_law_told" = true) (k13 : PySem.W.keepIn K (.ref f13) = true)
    (a14 : PySem.W.nsIn K mainGlobals "_law_odd" = some (some (.ref f14))) (l14 : K.lookup f14 = some ⟨oc14, od14, .func (PySem.W.fnOf "_law_odd" "_law_odd" (defArgs s_l_odd) (defBody s_l_odd) (defScope s_l_odd) .none kV14 dc14 pm14 an14 cd14 ct14), sl14⟩) (c14 : PySem.W.codeIn K cd14 "_law_odd" = true) (k14 : PySem.W.keepIn K (.ref f14) = true)
    (a15 : PySem.W.nsIn K mainGlobals "law" = some (some (.ref f15))) (l15 : K.lookup f15 = some ⟨oc15, od15, .func (PySem.W.fnOf "law" "law" (defArgs s_law) (defBody s_law) (defScope s_law) .none kV15 dc15 pm15 an15 cd15 ct15), sl15⟩) (c15 : PySem.W.codeIn K cd15 "law" = true) (k15 : PySem.W.keepIn K (.ref f15) = true)
    (u6 : PySem.W.CodeHd h cc6 P6 ∧ h.get? P6 = some (PySem.W.tabObj #[])) (n6 : K.lookup P6 = none)
    {aI aT aU aN aS aF NI ecc ecd : Addr} {enm eq : Str} {ebs esub : List Value} {esn : List Str} {eab : Bool} {ecol : Option Bool} {edd eod ean ecld ecdd : Option Addr} {em0 em1 em2 em3 em5 : Option Value} {eoc edc epm ect ecl eccl : Value} {eosl ecsl ecs : Array (Option Value)} {evs : Array Value} {efile : Str} {etf : Tok} {ep1 ep2 : Pos}
    (er_n1 : PySem.W.nsIn K mainGlobals "InvalidWord" = some (some (.ref aI))) (er_n2 : PySem.W.nsIn K mainGlobals "TooLarge" = some (some (.ref aT))) (er_n3 : PySem.W.nsIn K mainGlobals "UnknownName" = some (some (.ref aU))) (er_n4 : PySem.W.nsIn K mainGlobals "NotFitting" = some (some (.ref aN))) (er_n5 : PySem.W.nsIn K mainGlobals "SumsaidError" = some (some (.ref aS))) (er_n6 : PySem.W.nsIn K mainGlobals "ValueError" = some none) (er_n7 : PySem.W.nsIn K mainGlobals "super" = some none)
    (er_x : K.lookup aI = some (excClassObj enm eq aI NI ebs [.ref aS, .type "ValueError", .type "Exception", .type "BaseException", .type "object"] true esn esub eab ecol edd em0 em1 em2 em3 em5 "ValueError.__new__")) (er_al : PySem.W.alongIn K "__init__" [.ref aS, .type "ValueError", .type "Exception", .type "BaseException", .type "object"] = some (some (.builtin "ValueError.__init__")))
    (er_sa : PySem.W.findIn K (.ref aI) "__setattr__" = some (some (.builtin "object.__setattr__"))) (er_ga : PySem.W.findIn K (.ref aI) "__getattribute__" = some (some (.builtin "BaseException.__getattribute__"))) (er_gg : PySem.W.findIn K (.ref aI) "__getattr__" = some none) (er_no : PySem.W.findIn K (.ref aI) "number" = some none) (er_i : PySem.W.findIn K (.ref aI) "__init__" = some (some (.ref aF))) (er_t : PySem.W.typeIn K (.ref aF) = some (.type "function")) (er_k : PySem.W.keepIn K (.ref aI) = true) (er_ex : PySem.W.subIn K (.ref aI) (.type "BaseException") = some true) (er_ty : PySem.W.typeIn K (.ref aI) = some (.type "type")) (er_hd : PySem.W.hasDictIn K aI = true) (er_ow : PySem.W.mroIn K aI (.ref aI) = some true) (er_op : PySem.W.nsIn K cStatics "thirdparty.any" = some none)
    (er_f : K.lookup aF = some ⟨eoc, eod, .func (PySem.W.ksFn "__init__" "InvalidWord.__init__" (SupX.iA ep1 ep2) SupX.iB SupX.iS .none .none edc epm ean (.ref ecd) ect ecc), eosl⟩) (er_c : PySem.W.codeIn K (.ref ecd) "InvalidWord.__init__" = true) (er_ce : K.lookup ecc = some ⟨ecl, ecld, .cell (some (.ref aI)), ecsl⟩) (er_co : K.lookup ecd = some ⟨eccl, ecdd, .fields evs, ecs⟩) (er_v : evs[2]? = some (.str efile etf)) (er_fi : ((l.prog.main.file : Str) == efile) = true) (er_to : (l.prog.main.scope.names.lookup ("super" : Str)).isSome = false)
    (er_q : PySem.W.excIn K aT Lw.veBm "ValueError.__new__" = true) (er_kT : PySem.W.keepIn K (.ref aT) = true) (er_eT : PySem.W.subIn K (.ref aT) (.type "BaseException") = some true) (er_tT : PySem.W.typeIn K (.ref aT) = some (.type "type"))
    (er_ca : PySem.W.findIn K (.ref aI) "__class__" = some (some (.builtin "object.__class__"))) (er_cn : PySem.W.specialIn K (.builtin "object.__class__") "__get__" = some (some (.builtin "getset_descriptor.__get__"))) (er_ct : PySem.W.takesIn K (.builtin "object.__class__") = some true) (er_cm : PySem.W.mroIn K aI (.type "object") = some true)
    (er_tg : PySem.W.findIn K (.ref aT) "__getattribute__" = some (some (.builtin "BaseException.__getattribute__"))) (er_tk : PySem.W.findIn K (.ref aT) "__getattr__" = some none) (er_th : PySem.W.hasDictIn K aT = true) (er_ta : PySem.W.findIn K (.ref aT) "__class__" = some (some (.builtin "object.__class__"))) (er_tm : PySem.W.mroIn K aT (.type "object") = some true)
    (er_eII : PySem.W.exmOne K (.ref aI) (.ref aI) = some true) (er_eTI : PySem.W.exmOne K (.ref aT) (.ref aI) = some false) (er_eTT : PySem.W.exmOne K (.ref aT) (.ref aT) = some true) (er_kIT : PySem.W.kitOne K (.ref aI) (.ref aT) = some false) (er_kIU : PySem.W.kitOne K (.ref aI) (.ref aU) = some false) (er_kIN : PySem.W.kitOne K (.ref aI) (.ref aN) = some false) (er_kIS : PySem.W.kitOne K (.ref aI) (.ref aS) = some true) (er_kIV : PySem.W.kitOne K (.ref aI) (.type "ValueError") = some true) (er_kTN : PySem.W.kitOne K (.ref aT) (.ref aN) = some false) (er_kTU : PySem.W.kitOne K (.ref aT) (.ref aU) = some false) (er_kTI : PySem.W.kitOne K (.ref aT) (.ref aI) = some false) (er_kTS : PySem.W.kitOne K (.ref aT) (.ref aS) = some true)
    (i_MOST_LINES : PySem.W.nsIn K mainGlobals "MOST_LINES" = some (some (.int 40 tk_MOST_LINES))) (i_MOST_FACTORS : PySem.W.nsIn K mainGlobals "MOST_FACTORS" = some (some (.int 6 tk_MOST_FACTORS))) (i_MOST_FACTOR : PySem.W.nsIn K mainGlobals "MOST_FACTOR" = some (some (.int 9 tk_MOST_FACTOR))) (i_MOST_CONSTANT : PySem.W.nsIn K mainGlobals "MOST_CONSTANT" = some (some (.int 99 tk_MOST_CONSTANT))) (i_MOST_DIVISOR : PySem.W.nsIn K mainGlobals "MOST_DIVISOR" = some (some (.int 12 tk_MOST_DIVISOR)))
    {ad_LINES : Addr} {es_LINES : Array DictEntry} {nd_LINES : Nat} {tk_LINES_0 tk_LINES_1 tk_LINES_2 : Tok}
    (e_LINES : PySem.W.nsIn K mainGlobals "LINES" = some (some (.ref ad_LINES))) (o_LINES : K.lookup ad_LINES = some ⟨.type "dict", none, .dict es_LINES nd_LINES, #[]⟩) (h_LINES : PySem.W.KeysLit w.params es_LINES.toList) (v_LINES_0 : PySem.W.nsIn K ad_LINES "not" = some (some (.int 1 tk_LINES_0))) (v_LINES_1 : PySem.W.nsIn K ad_LINES "both" = some (some (.int 2 tk_LINES_1))) (v_LINES_2 : PySem.W.nsIn K ad_LINES "there" = some (some (.int 1 tk_LINES_2)))
    (lw_LINES : (ad_LINES == sysModules) = false) (x_LINES_0 : PySem.W.nsIn K ad_LINES "below" = some none) (x_LINES_1 : PySem.W.nsIn K ad_LINES "rest" = some none) (x_LINES_2 : PySem.W.nsIn K ad_LINES "" = some none) (x_LINES_3 : PySem.W.nsIn K ad_LINES "x" = some none) (x_LINES_4 : PySem.W.nsIn K ad_LINES "Below" = some none) (x_LINES_5 : PySem.W.nsIn K ad_LINES ":" = some none) (x_LINES_6 : PySem.W.nsIn K ad_LINES "belo" = some none) (x_LINES_7 : PySem.W.nsIn K ad_LINES ";;" = some none) (x_LINES_8 : PySem.W.nsIn K ad_LINES "10" = some none) (x_LINES_9 : PySem.W.nsIn K ad_LINES "1.5" = some none) (x_LINES_10 : PySem.W.nsIn K ad_LINES "--1" = some none) (x_LINES_11 : PySem.W.nsIn K ad_LINES "\tbelow" = some none)
    (z_all : PySem.W.nsIn K mainGlobals "all" = some none) (z_int : PySem.W.nsIn K mainGlobals "int" = some none) (z_isinstance : PySem.W.nsIn K mainGlobals "isinstance" = some none) (z_len : PySem.W.nsIn K mainGlobals "len" = some none) (z_list : PySem.W.nsIn K mainGlobals "list" = some none) (z_max : PySem.W.nsIn K mainGlobals "max" = some none) (z_range : PySem.W.nsIn K mainGlobals "range" = some none) (z_str : PySem.W.nsIn K mainGlobals "str" = some none) (z_tuple : PySem.W.nsIn K mainGlobals "tuple" = some none) :
    LamX.LawAtS l w K CX0 69 63 "_law_script" mg fa h := by
  have e := hfa.symm.trans (PySem.W.mg_of X G a15)
  cases e
  have F1 := fun_mk (st := s_Words___init__) l1 c1 k1
  have F2 := fun_mk (st := s_Words_word) l2 c2 k2
  have F3 := fun_mk (st := s_Words_number) l3 c3 k3
  have F4 := fun_mk (st := s_Words_factors) l4 c4 k4
  have F5 := fun_mk (st := s_Words_line) l5 c5 k5
  have F6 := funT_mk (st := s_number_of) l6 c6 k6
  have F7 := fun_mk (st := s_parse_saying) l7 c7 k7
  have F8 := fun_mk (st := s_l_draw) l8 c8 k8
  have F9 := fun_mk (st := s_l_factors) l9 c9 k9
  have F10 := fun_mk (st := s_l_atom) l10 c10 k10
  have F11 := fun_mk (st := s_l_plain) l11 c11 k11
  have F12 := fun_mk (st := s_l_words) l12 c12 k12
  have F13 := fun_mk (st := s_l_told) l13 c13 k13
  have F14 := fun_mk (st := s_l_odd) l14 c14 k14
  have F15 := fun_mk (st := s_law) l15 c15 k15
  have D_LINES : ∃ a, mg "LINES" = some (.ref a) ∧ KTab K w a tab_LINES := by
    refine ⟨ad_LINES, PySem.W.mg_of X G e_LINES, fun z d hz => ?_⟩
    unfold tab_LINES at hz
    split at hz
    · rename_i hk
      cases hz
      rw [hk]
      exact ⟨.int _, ⟨es_LINES, nd_LINES, _, o_LINES, h_LINES, v_LINES_0, ⟨_, rfl⟩⟩, fun H => ⟨.int _, rfl⟩⟩
    split at hz
    · rename_i hk
      cases hz
      rw [hk]
      exact ⟨.int _, ⟨es_LINES, nd_LINES, _, o_LINES, h_LINES, v_LINES_1, ⟨_, rfl⟩⟩, fun H => ⟨.int _, rfl⟩⟩
    split at hz
    · rename_i hk
      cases hz
      rw [hk]
      exact ⟨.int _, ⟨es_LINES, nd_LINES, _, o_LINES, h_LINES, v_LINES_2, ⟨_, rfl⟩⟩, fun H => ⟨.int _, rfl⟩⟩
    cases hz
  have X_LINES : ∃ a, mg "LINES" = some (.ref a) ∧ KMem K w a mem_LINES := by
    refine ⟨ad_LINES, PySem.W.mg_of X G e_LINES, es_LINES, nd_LINES, ⟨o_LINES, h_LINES, lw_LINES⟩, fun p hp => ?_⟩
    simp only [mem_LINES, List.mem_cons, List.not_mem_nil, or_false] at hp
    rcases hp with rfl | rfl | rfl | rfl | rfl | rfl | rfl | rfl | rfl | rfl | rfl | rfl | rfl | rfl | rfl
    · exact ⟨_, v_LINES_0, rfl⟩
    · exact ⟨_, v_LINES_1, rfl⟩
    · exact ⟨_, v_LINES_2, rfl⟩
    · exact ⟨_, x_LINES_0, rfl⟩
    · exact ⟨_, x_LINES_1, rfl⟩
    · exact ⟨_, x_LINES_2, rfl⟩
    · exact ⟨_, x_LINES_3, rfl⟩
    · exact ⟨_, x_LINES_4, rfl⟩
    · exact ⟨_, x_LINES_5, rfl⟩
    · exact ⟨_, x_LINES_6, rfl⟩
    · exact ⟨_, x_LINES_7, rfl⟩
    · exact ⟨_, x_LINES_8, rfl⟩
    · exact ⟨_, x_LINES_9, rfl⟩
    · exact ⟨_, x_LINES_10, rfl⟩
    · exact ⟨_, x_LINES_11, rfl⟩
  let T : Txt l.prog w K mg := { C_Words := CC_Words, cl_Words := ⟨pg_Words, hd_Words, po_Words, sa_Words⟩, mC_Words := PySem.W.mg_of X G aC_Words, na_Words_row := na_Words_row, na_Words_position := na_Words_position, na_Words_lines := na_Words_lines, a_Words___init__ := f1, fd_Words___init__ := _, F_Words___init__ := F1, b_Words___init__ := (F1.binds (ps := ["self", "text"]) fun _ _ _ _ _ _ us hl => match us, hl with | [_, _], _ => rfl), mk_Words := ⟨mk_Words, a1, i1, kc_Words⟩, a_Words_word := f2, fd_Words_word := _, F_Words_word := F2, b_Words_word := (F2.binds (ps := ["self"]) fun _ _ _ _ _ _ us hl => match us, hl with | [_], _ => rfl), me_Words_word := ⟨a2, i2, k2⟩, a_Words_number := f3, fd_Words_number := _, F_Words_number := F3, b_Words_number := (F3.binds (ps := ["self", "low", "high"]) fun _ _ _ _ _ _ us hl => match us, hl with | [_, _, _], _ => rfl), me_Words_number := ⟨a3, i3, k3⟩, a_Words_factors := f4, fd_Words_factors := _, F_Words_factors := F4, b_Words_factors := (F4.binds (ps := ["self"]) fun _ _ _ _ _ _ us hl => match us, hl with | [_], _ => rfl), me_Words_factors := ⟨a4, i4, k4⟩, a_Words_line := f5, fd_Words_line := _, F_Words_line := F5, b_Words_line := (F5.binds (ps := ["self"]) fun _ _ _ _ _ _ us hl => match us, hl with | [_], _ => rfl), me_Words_line := ⟨a5, i5, k5⟩, a_number_of := f6, fd_number_of := _, c_number_of := cc6, t_number_of := P6, F_number_of := F6, m_number_of := PySem.W.mg_of X G a6, b_number_of := (F6.plain.binds (ps := ["word", "low", "high"]) fun _ _ _ _ _ _ us hl => match us, hl with | [_, _, _], _ => rfl), a_parse_saying := f7, fd_parse_saying := _, F_parse_saying := F7, m_parse_saying := PySem.W.mg_of X G a7, b_parse_saying := (F7.binds (ps := ["text"]) fun _ _ _ _ _ _ us hl => match us, hl with | [_], _ => rfl), a_l_draw := f8, fd_l_draw := _, F_l_draw := F8, m_l_draw := PySem.W.mg_of X G a8, b_l_draw := (F8.binds (ps := ["_law_state", "_law_limit"]) fun _ _ _ _ _ _ us hl => match us, hl with | [_, _], _ => rfl), a_l_factors := f9, fd_l_factors := _, F_l_factors := F9, m_l_factors := PySem.W.mg_of X G a9, b_l_factors := (F9.binds (ps := ["_law_state", "_law_count", "_law_far"]) fun _ _ _ _ _ _ us hl => match us, hl with | [_, _, _], _ => rfl), a_l_atom := f10, fd_l_atom := _, F_l_atom := F10, m_l_atom := PySem.W.mg_of X G a10, b_l_atom := (F10.binds (ps := ["_law_state", "_law_count", "_law_far"]) fun _ _ _ _ _ _ us hl => match us, hl with | [_, _, _], _ => rfl), a_l_plain := f11, fd_l_plain := _, F_l_plain := F11, m_l_plain := PySem.W.mg_of X G a11, b_l_plain := (F11.binds (ps := ["_law_state", "_law_count", "_law_many", "_law_far"]) fun _ _ _ _ _ _ us hl => match us, hl with | [_, _, _, _], _ => rfl), a_l_words := f12, fd_l_words := _, F_l_words := F12, m_l_words := PySem.W.mg_of X G a12, b_l_words := (F12.binds (ps := ["_law_lines", "_law_number"]) fun _ _ _ _ _ _ us hl => match us, hl with | [_, _], _ => rfl), a_l_told := f13, fd_l_told := _, F_l_told := F13, m_l_told := PySem.W.mg_of X G a13, b_l_told := (F13.binds (ps := ["_law_text"]) fun _ _ _ _ _ _ us hl => match us, hl with | [_], _ => rfl), a_l_odd := f14, fd_l_odd := _, F_l_odd := F14, m_l_odd := PySem.W.mg_of X G a14, b_l_odd := (F14.binds (ps := ["_law_state", "_law_words_here", "_law_at"]) fun _ _ _ _ _ _ us hl => match us, hl with | [_, _, _], _ => rfl), a_law := fa, fd_law := _, F_law := F15, m_law := PySem.W.mg_of X G a15, b_law := (F15.binds (ps := ["_law_script"]) fun _ _ _ _ _ _ us hl => match us, hl with | [_], _ => rfl), z_all := PySem.W.mg_none_of X G z_all, z_int := PySem.W.mg_none_of X G z_int, z_isinstance := PySem.W.mg_none_of X G z_isinstance, z_len := PySem.W.mg_none_of X G z_len, z_list := PySem.W.mg_none_of X G z_list, z_max := PySem.W.mg_none_of X G z_max, z_range := PySem.W.mg_none_of X G z_range, z_str := PySem.W.mg_none_of X G z_str, z_tuple := PySem.W.mg_none_of X G z_tuple, k_MOST_LINES := ⟨_, PySem.W.mg_of X G i_MOST_LINES⟩, k_MOST_FACTORS := ⟨_, PySem.W.mg_of X G i_MOST_FACTORS⟩, k_MOST_FACTOR := ⟨_, PySem.W.mg_of X G i_MOST_FACTOR⟩, k_MOST_CONSTANT := ⟨_, PySem.W.mg_of X G i_MOST_CONSTANT⟩, k_MOST_DIVISOR := ⟨_, PySem.W.mg_of X G i_MOST_DIVISOR⟩, x_LINES := X_LINES, d_LINES := D_LINES, er := { I := aI, T := aT, U := aU, N := aN, S := aS, f := aF, sup := ⟨⟨_, _, _, _, _, _, _, _, _, _, _, _, _, _, _, er_x, (show PySem.HandSPX.refsVE Lw.veBm = true by decide +kernel), er_al⟩, er_sa, er_ga, er_gg, er_no, er_i, er_t, er_k, er_ex, er_ty, er_hd, er_ow, er_op, ⟨_, _, _, _, _, _, _, _, _, _, _, er_f, er_c, ⟨_, _, _, er_ce⟩, _, _, _, _, _, _, er_co, er_v, er_fi⟩, er_to⟩, gI := PySem.W.mg_of X G er_n1, gT := PySem.W.mg_of X G er_n2, gU := PySem.W.mg_of X G er_n3, gN := PySem.W.mg_of X G er_n4, gS := PySem.W.mg_of X G er_n5, gV := PySem.W.mg_none_of X G er_n6, gsu := PySem.W.mg_none_of X G er_n7, too := er_q, kT := er_kT, exT := er_eT, tyT := er_tT, cI := ⟨er_ga, er_gg, er_ex, er_hd, er_ca, er_cn, er_ct, er_cm⟩, cT := ⟨er_tg, er_tk, er_eT, er_th, er_ta, er_cn, er_ct, er_tm⟩, eII := er_eII, eTI := er_eTI, eTT := er_eTT, kIT := er_kIT, kIU := er_kIU, kIN := er_kIN, kIS := er_kIS, kIV := er_kIV, kTN := er_kTN, kTU := er_kTU, kTI := er_kTI, kTS := er_kTS } }
  have T6 := u6
  refine ⟨(PySem.W.fnOf "law" "law" (defArgs s_law) (defBody s_law) (defScope s_law) .none kV15 dc15 pm15 an15 cd15 ct15), [(cc6, P6)], sayLaw K T.Tb, ?p1, ?p2, ?p3, fun s v => .of_eq rfl, fun H a ns hl _ hH hS => ⟨a, ns, rfl, hS, hl, ?p4, fun _ => rfl⟩, fun base _ _ hb => ok_law T (hb (cc6, P6) (by simp))⟩
  case p1 =>
    exact fun p hp => by
      have e := List.mem_singleton.mp hp
      subst e
      exact T6.2
  case p2 =>
    exact fun p hp => by
      have e := List.mem_singleton.mp hp
      subst e
      exact n6
  case p3 =>
    exact fun p hp => by
      have e := List.mem_singleton.mp hp
      subst e
      exact T6.1
  case p4 =>
    intro p hp
    simp only [T, Txt.Tb, List.mem_cons, List.not_mem_nil, or_false] at hp
    rcases hp with rfl
    · exact LamX.TabS.nil (hH (cc6, P6) (by simp))
end Lw
open PySem PySem.W PyProof.Rows
set_option maxRecDepth 100000 in
set_option maxHeartbeats 0 in
theorem PySem.Challenge.cw_sumsaid_k20_written_sayings_refused_holds : PySem.Challenge.rw_sumsaid_k20_written_sayings_refused.Holds := by
  w_on; o_law; k_head; (case hw => w_witness2)
  k_fill
  refine Ab.walk_tab (l := PySem.Challenge.rw_sumsaid_k20_written_sayings_refused) (n := 63) (k := 69) (x := "_law_script") rfl (by decide) rfl ⟨rfl, by decide, by decide⟩ (fun w h Y => PySem.W.kIn_of Y) ?F
  case F =>
    intro w mg mb mean fa h Y KX Tp G hmg
    refine' Lw.all_mk (P6 := 87) KX Tp G hmg ?aC_Words ?pg_Words ?hd_Words ?po_Words ?sa_Words ?mk_Words ?kc_Words ?na_Words_row ?na_Words_position ?na_Words_lines ?a1 ?i1 ?l1 ?c1 ?k1 ?a2 ?i2 ?l2 ?c2 ?k2 ?a3 ?i3 ?l3 ?c3 ?k3 ?a4 ?i4 ?l4 ?c4 ?k4 ?a5 ?i5 ?l5 ?c5 ?k5 ?a6 ?l6 ?c6 ?k6 ?a7 ?l7 ?c7 ?k7 ?a8 ?l8 ?c8 ?k8 ?a9 ?l9 ?c9 ?k9 ?a10 ?l10 ?c10 ?k10 ?a11 ?l11 ?c11 ?k11 ?a12 ?l12 ?c12 ?k12 ?a13 ?l13 ?c13 ?k13 ?a14 ?l14 ?c14 ?k14 ?a15 ?l15 ?c15 ?k15 ?u6 ?n6 ?er_n1 ?er_n2 ?er_n3 ?er_n4 ?er_n5 ?er_n6 ?er_n7 ?er_x ?er_al ?er_sa ?er_ga ?er_gg ?er_no ?er_i ?er_t ?er_k ?er_ex ?er_ty ?er_hd ?er_ow ?er_op ?er_f ?er_c ?er_ce ?er_co ?er_v ?er_fi ?er_to ?er_q ?er_kT ?er_eT ?er_tT ?er_ca ?er_cn ?er_ct ?er_cm ?er_tg ?er_tk ?er_th ?er_ta ?er_tm ?er_eII ?er_eTI ?er_eTT ?er_kIT ?er_kIU ?er_kIN ?er_kIS ?er_kIV ?er_kTN ?er_kTU ?er_kTI ?er_kTS ?i_MOST_LINES ?i_MOST_FACTORS ?i_MOST_FACTOR ?i_MOST_CONSTANT ?i_MOST_DIVISOR ?e_LINES ?o_LINES ?h_LINES ?v_LINES_0 ?v_LINES_1 ?v_LINES_2 ?lw_LINES ?x_LINES_0 ?x_LINES_1 ?x_LINES_2 ?x_LINES_3 ?x_LINES_4 ?x_LINES_5 ?x_LINES_6 ?x_LINES_7 ?x_LINES_8 ?x_LINES_9 ?x_LINES_10 ?x_LINES_11 ?z_all ?z_int ?z_isinstance ?z_len ?z_list ?z_max ?z_range ?z_str ?z_tuple
    (case aC_Words => k_is); (case pg_Words => k_is); (case hd_Words => k_is); (case po_Words => k_is); (case sa_Words => k_is); (case mk_Words => k_is); (case kc_Words => k_is); (case na_Words_row => k_is); (case na_Words_position => k_is); (case na_Words_lines => k_is); (case a1 => k_is); (case i1 => k_is); (case l1 => k_is); (case c1 => k_is); (case k1 => k_is); (case a2 => k_is); (case i2 => k_is); (case l2 => k_is); (case c2 => k_is); (case k2 => k_is); (case a3 => k_is); (case i3 => k_is); (case l3 => k_is); (case c3 => k_is); (case k3 => k_is); (case a4 => k_is); (case i4 => k_is); (case l4 => k_is); (case c4 => k_is); (case k4 => k_is); (case a5 => k_is); (case i5 => k_is); (case l5 => k_is); (case c5 => k_is); (case k5 => k_is); (case a6 => k_is); (case l6 => k_is); (case c6 => k_is); (case k6 => k_is); (case a7 => k_is); (case l7 => k_is); (case c7 => k_is); (case k7 => k_is); (case a8 => k_is); (case l8 => k_is); (case c8 => k_is); (case k8 => k_is); (case a9 => k_is); (case l9 => k_is); (case c9 => k_is); (case k9 => k_is); (case a10 => k_is); (case l10 => k_is); (case c10 => k_is); (case k10 => k_is); (case a11 => k_is); (case l11 => k_is); (case c11 => k_is); (case k11 => k_is); (case a12 => k_is); (case l12 => k_is); (case c12 => k_is); (case k12 => k_is); (case a13 => k_is); (case l13 => k_is); (case c13 => k_is); (case k13 => k_is); (case a14 => k_is); (case l14 => k_is); (case c14 => k_is); (case k14 => k_is); (case a15 => k_is); (case l15 => k_is); (case c15 => k_is); (case k15 => k_is); (case u6 => exact Ab.tab_of2 (x := "number_of") Tp KX (by kernel_rfl) (by kernel_rfl)); (case n6 => kernel_rfl); (case er_n1 => first | k_is | kernel_rfl | rfl); (case er_n2 => first | k_is | kernel_rfl | rfl); (case er_n3 => first | k_is | kernel_rfl | rfl); (case er_n4 => first | k_is | kernel_rfl | rfl); (case er_n5 => first | k_is | kernel_rfl | rfl); (case er_n6 => first | k_is | kernel_rfl | rfl); (case er_n7 => first | k_is | kernel_rfl | rfl); (case er_x => first | k_is | kernel_rfl | rfl); (case er_al => first | k_is | kernel_rfl | rfl); (case er_sa => first | k_is | kernel_rfl | rfl); (case er_ga => first | k_is | kernel_rfl | rfl); (case er_gg => first | k_is | kernel_rfl | rfl); (case er_no => first | k_is | kernel_rfl | rfl); (case er_i => first | k_is | kernel_rfl | rfl); (case er_t => first | k_is | kernel_rfl | rfl); (case er_k => first | k_is | kernel_rfl | rfl); (case er_ex => first | k_is | kernel_rfl | rfl); (case er_ty => first | k_is | kernel_rfl | rfl); (case er_hd => first | k_is | kernel_rfl | rfl); (case er_ow => first | k_is | kernel_rfl | rfl); (case er_op => first | k_is | kernel_rfl | rfl); (case er_f => first | k_is | kernel_rfl | rfl); (case er_c => first | k_is | kernel_rfl | rfl); (case er_ce => first | k_is | kernel_rfl | rfl); (case er_co => first | k_is | kernel_rfl | rfl); (case er_v => first | rfl | kernel_rfl); (case er_fi => first | k_is | kernel_rfl | rfl); (case er_to => first | k_is | kernel_rfl | rfl); (case er_q => first | k_is | kernel_rfl | rfl); (case er_kT => first | k_is | kernel_rfl | rfl); (case er_eT => first | k_is | kernel_rfl | rfl); (case er_tT => first | k_is | kernel_rfl | rfl); (case er_ca => first | k_is | kernel_rfl | rfl); (case er_cn => first | k_is | kernel_rfl | rfl); (case er_ct => first | k_is | kernel_rfl | rfl); (case er_cm => first | k_is | kernel_rfl | rfl); (case er_tg => first | k_is | kernel_rfl | rfl); (case er_tk => first | k_is | kernel_rfl | rfl); (case er_th => first | k_is | kernel_rfl | rfl); (case er_ta => first | k_is | kernel_rfl | rfl); (case er_tm => first | k_is | kernel_rfl | rfl); (case er_eII => first | k_is | kernel_rfl | rfl); (case er_eTI => first | k_is | kernel_rfl | rfl); (case er_eTT => first | k_is | kernel_rfl | rfl); (case er_kIT => first | k_is | kernel_rfl | rfl); (case er_kIU => first | k_is | kernel_rfl | rfl); (case er_kIN => first | k_is | kernel_rfl | rfl); (case er_kIS => first | k_is | kernel_rfl | rfl); (case er_kIV => first | k_is | kernel_rfl | rfl); (case er_kTN => first | k_is | kernel_rfl | rfl); (case er_kTU => first | k_is | kernel_rfl | rfl); (case er_kTI => first | k_is | kernel_rfl | rfl); (case er_kTS => first | k_is | kernel_rfl | rfl); (case i_MOST_LINES => k_is); (case i_MOST_FACTORS => k_is); (case i_MOST_FACTOR => k_is); (case i_MOST_CONSTANT => k_is); (case i_MOST_DIVISOR => k_is); (case e_LINES => k_is); (case o_LINES => k_is); (case h_LINES => exact ⟨⟨_, _, rfl, rfl⟩, ⟨_, _, rfl, rfl⟩, ⟨_, _, rfl, rfl⟩, trivial⟩); (case v_LINES_0 => k_is); (case v_LINES_1 => k_is); (case v_LINES_2 => k_is); (case lw_LINES => kernel_rfl); (case x_LINES_0 => k_is); (case x_LINES_1 => k_is); (case x_LINES_2 => k_is); (case x_LINES_3 => k_is); (case x_LINES_4 => k_is); (case x_LINES_5 => k_is); (case x_LINES_6 => k_is); (case x_LINES_7 => k_is); (case x_LINES_8 => k_is); (case x_LINES_9 => k_is); (case x_LINES_10 => k_is); (case x_LINES_11 => k_is); (case z_all => k_is); (case z_int => k_is); (case z_isinstance => k_is); (case z_len => k_is); (case z_list => k_is); (case z_max => k_is); (case z_range => k_is); (case z_str => k_is); (case z_tuple => k_is)
