import PyProof.Rows.All
import Wide.All
import OpenK.AllK
import Wide.FinOn
import HandS.ForMost
import HandS.Exc
import HandS.TryOnly
import HandS.WordsExc
import HandS.TupAny
import HandS.IsInst
import HandS.Property
import HandS.Wide
import HandS.Style
import HandS.Text
import HandS.Deep
import HandS.Gcd
import HandS.Iter
import HandS.Zip
import KE.GoesNew
import KE.GoesEnum
import KE.KLam
import HandS.Lambda
import HandS.Nested
import HandS.MakeKwOnly
import PyProof.StrOps2
import KE.KMathGC
import HandS.TupMul
import HandS.Star
import HandS.SortInts
import HandS.Flow
import HandS.Dict
import HandS.Small
import HandS.Conv
import HandS.More
import HandS.Head0
import HandS.Head1
import HandS.Head2
import HandS.Head3
import HandS.HeadEnd
import HandS.HeadHook1
import HandS.HeadHook2
import HandS.HeadHook3
import HandS.HeadHook4
import HandS.HeadWalk
import HandS.EndTab
import PySem.Challenge.RW_claimpurse_k04_whole_losses
set_option Elab.async false
set_option linter.all false
set_option maxRecDepth 100000
set_option maxHeartbeats 4000000
/-! DBase: values as data (D), how they lie in the abstract heap (Rep), wishes (M), the judgements over data. -/
namespace DL
open PySem PySem.Spec PyProof.Rows L2

/-- a value as data -/
inductive D where
  | non | bl (b : Bool) | int (i : Int) | str (x : Str) | ty (n : String) | obj (a : Addr)
  | tup (xs : List D) | lst (xs : List D) | ins (C : Addr) (ks : List Str) (ds : List D)
  | dK (ks : List Key) (ds : List D) | dT (ks : List (List Key)) (ds : List D)

/-- a tuple that is read: tracked and not in U, or of the written part -/
def TupAt (K : PySem.W.Frag) (U : Addr → Prop) (H : Hp) (a : Addr) (xs : List V) : Prop :=
  (Rd H a (.tup xs) ∧ ¬ U a) ∨
    ∃ (o : Obj) (its : Array Value) (n : Nat), K.lookup a = some o ∧ o.cls = .type "tuple" ∧ o.data = .seq its n ∧ its.size ≤ sizeLine ∧ Vals xs its.toList
theorem TupAt.sq {K : PySem.W.Frag} {U : Addr → Prop} {H : Hp} {a : Addr} {xs : List V} (h : TupAt K U H a xs) : SqT K H a xs := by
  rcases h with ⟨h, _⟩ | h
  · exact .inl h
  · exact .inr h

mutual
/-- v bears the data d (U: the addresses of what may change) -/
def Rep (K : PySem.W.Frag) (U : Addr → Prop) (H : Hp) : D → V → Prop
  | .non, v => v = .non
  | .bl b, v => v = .bl b
  | .int i, v => v = .int i
  | .str x, v => v = .str x
  | .ty n, v => v = .ty n
  | .obj a, v => v = .ref a
  | .tup ds, v => ∃ a xs, v = .ref a ∧ TupAt K U H a xs ∧ Reps K U H ds xs
  | .lst ds, v => ∃ a xs, v = .ref a ∧ (H a = some (.lst xs) ∧ ¬ U a) ∧ Reps K U H ds xs
  | .ins C ks ds, v => ∃ a dx fs, v = .ref a ∧ (H a = some (.ins C dx fs) ∧ ¬ U a ∧ fs.map (·.1) = ks) ∧ Reps K U H ds (fs.map (·.2))
  | .dK ks ds, v => ∃ a kvs, v = .ref a ∧ (H a = some (.dK kvs) ∧ ¬ U a ∧ kvs.map (·.1) = ks) ∧ Reps K U H ds (kvs.map (·.2))
  | .dT ks ds, v => ∃ a kvs, v = .ref a ∧ (H a = some (.dT kvs) ∧ ¬ U a ∧ kvs.map (·.1) = ks) ∧ Reps K U H ds (kvs.map (·.2))
def Reps (K : PySem.W.Frag) (U : Addr → Prop) (H : Hp) : List D → List V → Prop
  | [], xs => xs = []
  | d :: ds, xs => ∃ x r, xs = x :: r ∧ Rep K U H d x ∧ Reps K U H ds r
end

/-- all but what stands at G is as it was -/
def Ext (G : Addr → Prop) (H H' : Hp) : Prop := ∀ a o, H a = some o → ¬ G a → H' a = some o
theorem Ext.refl {G : Addr → Prop} (H : Hp) : Ext G H H := fun _ _ h _ => h
theorem Ext.trans {G : Addr → Prop} {H H1 H2 : Hp} (a : Ext G H H1) (b : Ext G H1 H2) : Ext G H H2 := fun x o h n => b x o (a x o h n) n
theorem Ext.new {G : Addr → Prop} {H : Hp} {p : Addr} {o : HO} (h : H p = none) : Ext G H (upd H p o) := fun a u e _ => by
  rw [upd_ne (ne_of_none e h)]
  exact e
theorem TupAt.mono {K : PySem.W.Frag} {U U' : Addr → Prop} {H H' : Hp} {a : Addr} {xs : List V} (e : ∀ a o, H a = some o → ¬ U a → H' a = some o ∧ ¬ U' a) (h : TupAt K U H a xs) : TupAt K U' H' a xs := by
  rcases h with ⟨h | ⟨o, h⟩, n⟩ | h
  · exact .inl ⟨.inl (e _ _ h n).1, (e _ _ h n).2⟩
  · exact .inl ⟨.inr ⟨o, (e _ _ h n).1⟩, (e _ _ h n).2⟩
  · exact .inr h
mutual
theorem Rep.mono' {K : PySem.W.Frag} {U U' : Addr → Prop} {H H' : Hp} (e : ∀ a o, H a = some o → ¬ U a → H' a = some o ∧ ¬ U' a) : ∀ (d : D) (v : V), Rep K U H d v → Rep K U' H' d v
  | .non, v, h => by simpa only [Rep] using h
  | .bl b, v, h => by simpa only [Rep] using h
  | .int i, v, h => by simpa only [Rep] using h
  | .str x, v, h => by simpa only [Rep] using h
  | .ty n, v, h => by simpa only [Rep] using h
  | .obj a, v, h => by simpa only [Rep] using h
  | .tup ds, v, h => by
    simp only [Rep] at h ⊢
    obtain ⟨a, xs, h1, h2, h3⟩ := h
    exact ⟨a, xs, h1, h2.mono e, Reps.mono' e ds xs h3⟩
  | .lst ds, v, h => by
    simp only [Rep] at h ⊢
    obtain ⟨a, xs, h1, ⟨h2, n⟩, h3⟩ := h
    exact ⟨a, xs, h1, e _ _ h2 n, Reps.mono' e ds xs h3⟩
  | .ins C ks ds, v, h => by
    simp only [Rep] at h ⊢
    obtain ⟨a, dx, fs, h1, ⟨h2, n, hk⟩, h3⟩ := h
    exact ⟨a, dx, fs, h1, ⟨(e _ _ h2 n).1, (e _ _ h2 n).2, hk⟩, Reps.mono' e ds _ h3⟩
  | .dK ks ds, v, h => by
    simp only [Rep] at h ⊢
    obtain ⟨a, fs, h1, ⟨h2, n, hk⟩, h3⟩ := h
    exact ⟨a, fs, h1, ⟨(e _ _ h2 n).1, (e _ _ h2 n).2, hk⟩, Reps.mono' e ds _ h3⟩
  | .dT ks ds, v, h => by
    simp only [Rep] at h ⊢
    obtain ⟨a, fs, h1, ⟨h2, n, hk⟩, h3⟩ := h
    exact ⟨a, fs, h1, ⟨(e _ _ h2 n).1, (e _ _ h2 n).2, hk⟩, Reps.mono' e ds _ h3⟩
theorem Reps.mono' {K : PySem.W.Frag} {U U' : Addr → Prop} {H H' : Hp} (e : ∀ a o, H a = some o → ¬ U a → H' a = some o ∧ ¬ U' a) : ∀ (ds : List D) (xs : List V), Reps K U H ds xs → Reps K U' H' ds xs
  | [], xs, h => by simpa only [Reps] using h
  | d :: ds, xs, h => by
    simp only [Reps] at h ⊢
    obtain ⟨x, r, h1, h2, h3⟩ := h
    exact ⟨x, r, h1, Rep.mono' e d x h2, Reps.mono' e ds r h3⟩
end
section
variable {K : PySem.W.Frag} {G U U' : Addr → Prop} {H H' : Hp} {d : D} {v : V} {ds : List D} {xs : List V}
theorem Rep.ext (e : Ext G H H') (g : ∀ a, G a → U a) (h : Rep K U H d v) : Rep K U H' d v :=
  Rep.mono' (fun a o h n => ⟨e a o h fun z => n (g a z), n⟩) d v h
theorem Reps.ext (e : Ext G H H') (g : ∀ a, G a → U a) (h : Reps K U H ds xs) : Reps K U H' ds xs :=
  Reps.mono' (fun a o h n => ⟨e a o h fun z => n (g a z), n⟩) ds xs h
/-- fewer things that may change -/
theorem Rep.less (u : ∀ a, U' a → U a) (h : Rep K U H d v) : Rep K U' H d v := Rep.mono' (fun _ _ h n => ⟨h, fun z => n (u _ z)⟩) d v h
theorem Reps.less (u : ∀ a, U' a → U a) (h : Reps K U H ds xs) : Reps K U' H ds xs := Reps.mono' (fun _ _ h n => ⟨h, fun z => n (u _ z)⟩) ds xs h
theorem Reps.length : ∀ {ds : List D} {xs : List V}, Reps K U H ds xs → xs.length = ds.length
  | [], xs, h => by
    simp only [Reps] at h
    rw [h]
    rfl
  | d :: ds, xs, h => by
    simp only [Reps] at h
    obtain ⟨x, r, rfl, _, h3⟩ := h
    simp [Reps.length h3]
theorem Reps.nil : Reps K U H [] [] := by simp only [Reps]
theorem Reps.cons {x : V} (h1 : Rep K U H d x) (h2 : Reps K U H ds xs) : Reps K U H (d :: ds) (x :: xs) := by
  simp only [Reps]
  exact ⟨x, xs, rfl, h1, h2⟩
theorem Reps.get : ∀ {ds : List D} {xs : List V} {i : Nat} {x : V}, Reps K U H ds xs → xs[i]? = some x → ∃ d, ds[i]? = some d ∧ Rep K U H d x
  | [], xs, i, x, h, e => by
    simp only [Reps] at h
    subst h
    simp at e
  | d :: ds, xs, i, x, h, e => by
    simp only [Reps] at h
    obtain ⟨y, r, rfl, h2, h3⟩ := h
    cases i with
    | zero =>
      simp at e
      subst e
      exact ⟨d, rfl, h2⟩
    | succ i => exact Reps.get (i := i) h3 (by simpa using e)
theorem Reps.getD : ∀ {ds : List D} {xs : List V} {i : Nat} {d : D}, Reps K U H ds xs → ds[i]? = some d → ∃ x, xs[i]? = some x ∧ Rep K U H d x
  | [], xs, i, d, h, e => by simp at e
  | d :: ds, xs, i, d', h, e => by
    simp only [Reps] at h
    obtain ⟨y, r, rfl, h2, h3⟩ := h
    cases i with
    | zero =>
      simp at e
      subst e
      exact ⟨y, rfl, h2⟩
    | succ i =>
      obtain ⟨x, e1, e2⟩ := Reps.getD (i := i) h3 (by simpa using e)
      exact ⟨x, by simpa using e1, e2⟩
theorem Reps.append : ∀ {ds es : List D} {xs ys : List V}, Reps K U H ds xs → Reps K U H es ys → Reps K U H (ds ++ es) (xs ++ ys)
  | [], es, xs, ys, h, h2 => by
    simp only [Reps] at h
    subst h
    exact h2
  | d :: ds, es, xs, ys, h, h2 => by
    simp only [Reps] at h
    obtain ⟨y, r, rfl, h3, h4⟩ := h
    exact Reps.cons h3 (Reps.append h4 h2)
theorem Reps.take : ∀ {ds : List D} {xs : List V} (n : Nat), Reps K U H ds xs → Reps K U H (ds.take n) (xs.take n)
  | _, _, 0, _ => by simpa using Reps.nil
  | [], xs, n + 1, h => by
    simp only [Reps] at h
    subst h
    exact Reps.nil
  | d :: ds, xs, n + 1, h => by
    simp only [Reps] at h
    obtain ⟨y, r, rfl, h3, h4⟩ := h
    exact Reps.cons h3 (Reps.take n h4)
theorem Reps.drop : ∀ {ds : List D} {xs : List V} (n : Nat), Reps K U H ds xs → Reps K U H (ds.drop n) (xs.drop n)
  | _, _, 0, h => h
  | [], xs, n + 1, h => by
    simp only [Reps] at h
    subst h
    exact Reps.nil
  | d :: ds, xs, n + 1, h => by
    simp only [Reps] at h
    obtain ⟨y, r, rfl, h3, h4⟩ := h
    exact Reps.drop n h4
theorem Reps.reverse : ∀ {ds : List D} {xs : List V}, Reps K U H ds xs → Reps K U H ds.reverse xs.reverse
  | [], xs, h => by
    simp only [Reps] at h
    subst h
    exact Reps.nil
  | d :: ds, xs, h => by
    simp only [Reps] at h
    obtain ⟨y, r, rfl, h3, h4⟩ := h
    rw [List.reverse_cons, List.reverse_cons]
    exact (Reps.reverse h4).append (Reps.cons h3 Reps.nil)
theorem Reps.set {x : V} {d' : D} (r : Rep K U H d' x) : ∀ {ds : List D} {xs : List V} (i : Nat), Reps K U H ds xs → Reps K U H (ds.set i d') (xs.set i x)
  | [], xs, i, h => by
    simp only [Reps] at h
    subst h
    exact Reps.nil
  | d :: ds, xs, i, h => by
    simp only [Reps] at h
    obtain ⟨y, t, rfl, h3, h4⟩ := h
    cases i with
    | zero => exact Reps.cons r h4
    | succ i => exact Reps.cons h3 (Reps.set r i h4)
theorem Reps.nil_iff (h : Reps K U H ds xs) : xs = [] ↔ ds = [] := by
  rw [← List.length_eq_zero_iff, ← List.length_eq_zero_iff, h.length]
end

/-! ### wishes -/
/-- an error of an own class with its attributes -/
structure DX where
  C : Addr
  ks : List Str
  ds : List D
/-- what gives an α, or an error -/
abbrev M (α : Type) := (α → Prop) → (DX → Prop) → Prop
abbrev ret {α : Type} (a : α) : M α := fun Q _ => Q a
abbrev bnd {α β : Type} (m : M α) (f : α → M β) : M β := fun Q E => m (fun a => f a Q E) E
abbrev stuck {α : Type} : M α := fun _ _ => False
def RepX (K : PySem.W.Frag) (U : Addr → Prop) (H : Hp) (cls : Value) (dp : Option Addr) (x : DX) : Prop :=
  cls = .ref x.C ∧ ∃ d fs, dp = some d ∧ H d = some (.xd fs) ∧ ¬ U d ∧ fs.map (·.1) = x.ks ∧ Reps K U H x.ds (fs.map (·.2))
theorem RepX.ext {K : PySem.W.Frag} {G U : Addr → Prop} {H H' : Hp} {cls : Value} {dp : Option Addr} {x : DX} (e : Ext G H H') (g : ∀ a, G a → U a) (h : RepX K U H cls dp x) : RepX K U H' cls dp x := by
  obtain ⟨h1, d, fs, h2, h3, h4, h5, h6⟩ := h
  exact ⟨h1, d, fs, h2, e _ _ h3 fun z => h4 (g _ z), h4, h5, h6.ext e g⟩

/-- what the law as a whole may change, and what holds of it -/
structure GG where
  G : Addr → Prop
  J : Hp → Prop
  dom : ∀ H a, J H → G a → H a ≠ none
  st : ∀ H H', J H → (∀ a, G a → H' a = H a) → (∀ a φ, H a = some (.ext φ) → H' a = some (.ext φ)) → J H'
theorem GG.new (g : GG) {H : Hp} {p : Addr} {o : HO} (j : g.J H) (h : H p = none) : g.J (upd H p o) := g.st H _ j (fun a ha => upd_ne fun z => g.dom H a j ha (by rw [z]; exact h)) fun a φ e => by rw [upd_ne (ne_of_none e h)]; exact e

theorem RepX.less {K : PySem.W.Frag} {U U' : Addr → Prop} {H : Hp} {cls : Value} {dp : Option Addr} {x : DX} (u : ∀ a, U' a → U a) (h : RepX K U H cls dp x) : RepX K U' H cls dp x := by
  obtain ⟨h1, d, fs, h2, h3, h4, h5, h6⟩ := h
  exact ⟨h1, d, fs, h2, h3, fun q => h4 (u _ q), h5, h6.less u⟩
/-- a def's promise over data -/
abbrev FS := List D → M D
def spOf (K : PySem.W.Frag) (g : GG) (n : Nat) (f : FS) : Sp := fun vs H Q E => vs.length = n ∧ ∃ (U : Addr → Prop) (ds : List D) (Qd : D → Prop) (Ed : DX → Prop), (∀ a, g.G a → U a) ∧ (∀ a, U a → H a ≠ none) ∧ g.J H ∧ Reps K U H ds vs ∧
  f ds Qd Ed ∧ (∀ d v H', Qd d → Ext g.G H H' → g.J H' → Rep K U H' d v → Q v H') ∧ ∀ x cls dp H', Ed x → Ext g.G H H' → g.J H' → RepX K U H' cls dp x → E cls dp H'

abbrev DEnv := List (Option D)
def EnvRep (K : PySem.W.Frag) (U : Addr → Prop) (H : Hp) (σ : L2.St) (ρ : DEnv) : Prop := ρ.length = σ.length ∧ ∀ (i : Nat) (d : D), ρ[i]? = some (some d) → ∃ v, σ[i]? = some (some v) ∧ Rep K U H d v
/-- the place in a body: K, the law's things, what the caller may change, the heap at the entry, the wishes of errors -/
structure Zc where
  K : PySem.W.Frag
  g : GG
  U0 : Addr → Prop
  H0 : Hp
  Ed : DX → Prop
  EK : XK
  /-- things that a loop walks: they stay as they are -/
  kept : List (D × V) := []
structure Zc.Ok (z : Zc) : Prop where
  gu : ∀ a, z.g.G a → z.U0 a
  ek : ∀ x cls dp H, z.Ed x → Ext z.g.G z.H0 H → z.g.J H → RepX z.K z.U0 H cls dp x → z.EK cls dp H
/-- no error -/
def Zc.nox (z : Zc) : Zc := { z with Ed := fun _ => False, EK := E0 }
theorem Zc.Ok.nox {z : Zc} (o : z.Ok) : z.nox.Ok := ⟨o.gu, fun _ _ _ _ h => h.elim⟩
structure WR (z : Zc) (U : Addr → Prop) (σ : L2.St) (H : Hp) (ρ : DEnv) : Prop where
  ok : z.Ok
  u : ∀ a, z.U0 a → U a
  dom : ∀ a, U a → H a ≠ none
  ext : Ext z.g.G z.H0 H
  j : z.g.J H
  env : EnvRep z.K U H σ ρ
theorem WR.gu {z : Zc} {U : Addr → Prop} {σ : L2.St} {H : Hp} {ρ : DEnv} (w : WR z U σ H ρ) : ∀ a, z.g.G a → U a := fun a h => w.u a (w.ok.gu a h)
theorem WR.step {z : Zc} {U : Addr → Prop} {σ : L2.St} {H H' : Hp} {ρ : DEnv} (w : WR z U σ H ρ) (e : Ext z.g.G H H') (j : z.g.J H') : WR z U σ H' ρ :=
  ⟨w.ok, w.u, fun a h => by
    by_cases hg : z.g.G a
    · exact z.g.dom H' a j hg
    · cases q : H a with
      | none => exact absurd q (w.dom a h)
      | some o => rw [e a o q hg]; simp, w.ext.trans e, j, w.env.1, fun (i : Nat) (d : D) h => let ⟨v, h1, h2⟩ := w.env.2 i d h; ⟨v, h1, h2.ext e w.gu⟩⟩
theorem WR.fresh {z : Zc} {U : Addr → Prop} {σ : L2.St} {H : Hp} {ρ : DEnv} (w : WR z U σ H ρ) {p : Addr} (h : H p = none) : ¬ U p := fun q => w.dom p q h
theorem WR.new {z : Zc} {U : Addr → Prop} {σ : L2.St} {H : Hp} {ρ : DEnv} (w : WR z U σ H ρ) {p : Addr} {o : HO} (h : H p = none) : WR z U σ (upd H p o) ρ := w.step (Ext.new h) (z.g.new w.j h)
theorem WR.nox {z : Zc} {U : Addr → Prop} {σ : L2.St} {H : Hp} {ρ : DEnv} (w : WR z U σ H ρ) : WR z.nox U σ H ρ := ⟨w.ok.nox, w.u, w.dom, w.ext, w.j, w.env⟩

/-- the reading te of an expression asks no more than m -/
def TMe (z : Zc) (te : TE) (m : DEnv → M D) : Prop := ∀ (U : Addr → Prop) (σ : L2.St) (H : Hp) (ρ : DEnv) (Q : VK) (Qd : D → Prop) (E : DX → Prop), WR z U σ H ρ → (∀ x, E x → z.Ed x) → m ρ Qd E →
  (∀ d v H', Qd d → Ext z.g.G H H' → z.g.J H' → Rep z.K U H' d v → Q v H') → te σ H Q
def TMt (z : Zc) (tt : TT) (m : DEnv → M Bool) : Prop := ∀ (U : Addr → Prop) (σ : L2.St) (H : Hp) (ρ : DEnv) (Q : Bool → Hp → Prop) (Qd : Bool → Prop) (E : DX → Prop), WR z U σ H ρ → (∀ x, E x → z.Ed x) → m ρ Qd E →
  (∀ b H', Qd b → Ext z.g.G H H' → z.g.J H' → Q b H') → tt σ H Q
def TMa (z : Zc) (ta : TA) (m : DEnv → M (List D)) : Prop := ∀ (U : Addr → Prop) (σ : L2.St) (H : Hp) (ρ : DEnv) (Q : List V → Hp → Prop) (Qd : List D → Prop) (E : DX → Prop), WR z U σ H ρ → (∀ x, E x → z.Ed x) → m ρ Qd E →
  (∀ ds vs H', Qd ds → Ext z.g.G H H' → z.g.J H' → Reps z.K U H' ds vs → Q vs H') → ta σ H Q
/-- an operation by values: r asks no more than m -/
def RM2 (z : Zc) (r : R2) (m : D → D → M D) : Prop := ∀ (U : Addr → Prop) (H : Hp) (a b : D) (x y : V) (Q : VK) (Qd : D → Prop) (E : DX → Prop), (∀ a, z.g.G a → U a) → (∀ a, U a → H a ≠ none) → z.g.J H → Rep z.K U H a x → Rep z.K U H b y → (∀ x, E x → z.Ed x) → m a b Qd E →
  (∀ d v H', Qd d → Ext z.g.G H H' → z.g.J H' → Rep z.K U H' d v → Q v H') → r x y H Q
def RM1 (z : Zc) (r : V → Hp → VK → Prop) (m : D → M D) : Prop := ∀ (U : Addr → Prop) (H : Hp) (a : D) (x : V) (Q : VK) (Qd : D → Prop) (E : DX → Prop), (∀ a, z.g.G a → U a) → (∀ a, U a → H a ≠ none) → z.g.J H → Rep z.K U H a x → (∀ x, E x → z.Ed x) → m a Qd E →
  (∀ d v H', Qd d → Ext z.g.G H H' → z.g.J H' → Rep z.K U H' d v → Q v H') → r x H Q
def RMn (z : Zc) (r : List V → Hp → VK → Prop) (m : List D → M D) : Prop := ∀ (U : Addr → Prop) (H : Hp) (ds : List D) (xs : List V) (Q : VK) (Qd : D → Prop) (E : DX → Prop), (∀ a, z.g.G a → U a) → (∀ a, U a → H a ≠ none) → z.g.J H → Reps z.K U H ds xs → (∀ x, E x → z.Ed x) → m ds Qd E →
  (∀ d v H', Qd d → Ext z.g.G H H' → z.g.J H' → Rep z.K U H' d v → Q v H') → r xs H Q

/-! ### expressions -/
/-- the expression e means m, whose reading is te -/
structure DE (X : Cx) (z : Zc) (e : Expr) (te : TE) (m : DEnv → M D) : Prop where
  pe : PE X e te
  tm : TMe z te m
structure DT (X : Cx) (z : Zc) (e : Expr) (te : TT) (m : DEnv → M Bool) : Prop where
  pe : PT X e te
  tm : TMt z te m
structure DW (X : Cx) (z : Zc) (e : Expr) (te : TT) (m : DEnv → M Bool) : Prop where
  pe : PW X e te
  tm : TMt z te m
structure DA (X : Cx) (z : Zc) (es : List Expr) (te : TA) (m : DEnv → M (List D)) : Prop where
  pe : PA X es te
  tm : TMa z te m

/-- a slot's value -/
abbrev gv (ρ : DEnv) (i : Nat) : M D := fun Q _ => match ρ.getD i none with | some d => Q d | none => False
theorem tm_var {z : Zc} {i : Nat} : TMe z (tVar i) (fun ρ => gv ρ i) := fun U σ H ρ Q Qd E w he h k => by
  simp only [gv] at h
  cases q : ρ.getD i none with
  | none => rw [q] at h; exact h.elim
  | some d =>
    rw [q] at h
    have q' : ρ[i]? = some (some d) := by
      rw [List.getD_eq_getElem?_getD] at q
      cases e : ρ[i]? with
      | none => rw [e] at q; simp at q
      | some o => rw [e] at q; simp at q; rw [q]
    obtain ⟨v, h1, h2⟩ := w.env.2 i d q'
    exact ⟨v, h1, k d v H h (Ext.refl H) w.j h2⟩
theorem tm_c {z : Zc} {v : V} {d : D} (r : ∀ K U H, Rep K U H d v) : TMe z (tC v) (fun _ => ret d) := fun U σ H ρ Q Qd E w he h k =>
  k d v H h (Ext.refl H) w.j (r _ _ _)
section
variable {X : Cx} {z : Zc}
theorem dv (i : Nat) {x : Str} {pos : Pos} (hN : X.N[i]? = some x := by rfl) (hv : Vis X.env.scope x := by first | exact Or.inl rfl | exact Or.inr (Or.inl rfl) | exact Or.inr (Or.inr rfl)) (hd : (x == ("__debug__" : Str)) = false := by decide)
    (hcd : (x == ("__classdict__" : Str)) = false := by decide) : DE X z (.Name x pos) (tVar i) (fun ρ => gv ρ i) := ⟨pe_var hN hv hd hcd, tm_var⟩
theorem de_int {i j pos} : DE X z (.Constant (.int i) j pos) (tC (.int i)) (fun _ => ret (.int i)) := ⟨pe_int, tm_c fun _ _ _ => by simp only [Rep]⟩
theorem de_bl {b j pos} : DE X z (.Constant (.bool b) j pos) (tC (.bl b)) (fun _ => ret (.bl b)) := ⟨pe_bl, tm_c fun _ _ _ => by simp only [Rep]⟩
theorem de_non {j pos} : DE X z (.Constant .none j pos) (tC .non) (fun _ => ret .non) := ⟨pe_non, tm_c fun _ _ _ => by simp only [Rep]⟩
theorem de_str {x j pos} : DE X z (.Constant (.str x) j pos) (tC (.str x)) (fun _ => ret (.str x)) := ⟨pe_str, tm_c fun _ _ _ => by simp only [Rep]⟩
/-- a module's name: an int, a text; a class, a function -/
theorem de_glob {x : Str} {v : V} {u : Value} {d : D} {pos : Pos} (hm : X.mg x = some u) (r : RelV v u) (rd : ∀ K U H, Rep K U H d v) (hg : Gl X x := by rfl) (hd : (x == ("__debug__" : Str)) = false := by decide) : DE X z (.Name x pos) (tC v) (fun _ => ret d) := ⟨pe_glob hg hm r hd, tm_c rd⟩
theorem de_bltn {x : Str} {n : String} {pos : Pos} (hm : X.mg x = none) (hv : bootBuiltins x = some (.type n)) (hg : Gl X x := by rfl) (hn : x ≠ "__name__" := by decide) (hd : (x == ("__debug__" : Str)) = false := by decide) : DE X z (.Name x pos) (tC (.ty n)) (fun _ => ret (.ty n)) :=
  ⟨pe_bltn hg hm hv rfl hn hd, tm_c fun _ _ _ => by simp only [Rep]⟩
variable {a b c : Expr} {ta tb tc : TE} {ma mb mc : DEnv → M D} {pos : Pos}
theorem tm_op {r : R2} {m : D → D → M D} (hr : RM2 z r m) (ha : TMe z ta ma) (hb : TMe z tb mb) : TMe z (tOp r ta tb) (fun ρ => bnd (ma ρ) fun x => bnd (mb ρ) fun y => m x y) := fun U σ H ρ Q Qd E w he h k =>
  ha U σ H ρ _ _ E w he h fun d1 v1 H1 h1 e1 j1 r1 => hb U σ H1 ρ _ _ E (w.step e1 j1) he h1 fun d2 v2 H2 h2 e2 j2 r2 =>
    hr U H2 d1 d2 v1 v2 Q Qd E w.gu ((w.step e1 j1).step e2 j2).dom j2 (r1.ext e2 w.gu) r2 he h2 fun d v H' q e3 j3 r3 => k d v H' q ((e1.trans e2).trans e3) j3 r3
theorem tm_un {r : V → Hp → VK → Prop} {m : D → M D} (hr : RM1 z r m) (ha : TMe z ta ma) : TMe z (tUn r ta) (fun ρ => bnd (ma ρ) fun x => m x) := fun U σ H ρ Q Qd E w he h k =>
  ha U σ H ρ _ _ E w he h fun d1 v1 H1 h1 e1 j1 r1 => hr U H1 d1 v1 Q Qd E w.gu (w.step e1 j1).dom j1 r1 he h1 fun d v H' q e3 j3 r3 => k d v H' q (e1.trans e3) j3 r3
theorem de_op {op : Operator} {r : R2} {m : D → D → M D} (ho : OpR X (binaryOp op) r) (hr : RM2 z r m) (ha : DE X z a ta ma) (hb : DE X z b tb mb) : DE X z (.BinOp a op b pos) (tOp r ta tb) (fun ρ => bnd (ma ρ) fun x => bnd (mb ρ) fun y => m x y) :=
  ⟨pe_op ho ha.pe hb.pe, tm_op hr ha.tm hb.tm⟩
theorem de_un {op : UnaryOp} {r : V → Hp → VK → Prop} {m : D → M D} (ho : UnR X (unaryOp op) r) (hr : RM1 z r m) (ha : DE X z a ta ma) : DE X z (.UnaryOp op a pos) (tUn r ta) (fun ρ => bnd (ma ρ) fun x => m x) := ⟨pe_un ho ha.pe, tm_un hr ha.tm⟩
theorem de_cmp {op : CmpOp} {r : R2} {m : D → D → M D} (ho : OpR X (compareOp op) r) (hr : RM2 z r m) (ha : DE X z a ta ma) (hb : DE X z b tb mb) (hm : behindInMarks op b = false := by first | exact nomark _ | rfl) : DE X z (.Compare a [op] [b] pos) (tOp r ta tb) (fun ρ => bnd (ma ρ) fun x => bnd (mb ρ) fun y => m x y) :=
  ⟨pe_cmpR ho ha.pe hb.pe hm, tm_op hr ha.tm hb.tm⟩
/-- a truth value -/
abbrev asB (d : D) : M Bool := fun Q _ => match d with | .bl b => Q b | _ => False
theorem tm_test (ha : TMe z ta ma) : TMt z (tTest ta) (fun ρ => bnd (ma ρ) asB) := fun U σ H ρ Q Qd E w he h k =>
  ha U σ H ρ _ _ E w he h fun d1 v1 H1 h1 e1 j1 r1 => by
    cases d1 with
    | bl b => simp only [Rep] at r1; exact ⟨b, r1, k b H1 h1 e1 j1⟩
    | _ => exact h1.elim
theorem tm_testB (ha : TMe z ta ma) : TMt z (tB ta) (fun ρ => bnd (ma ρ) asB) := tm_test ha
theorem dt_cmp {op : CmpOp} {r : R2} {m : D → D → M D} (ho : OpR X (compareOp op) r) (hr : RM2 z r m) (ha : DE X z a ta ma) (hb : DE X z b tb mb) (hm : behindInMarks op b = false := by first | exact nomark _ | rfl) : DT X z (.Compare a [op] [b] pos) (tTest (tOp r ta tb)) (fun ρ => bnd (bnd (ma ρ) fun x => bnd (mb ρ) fun y => m x y) asB) :=
  ⟨pt_cmpR ho ha.pe hb.pe hm, tm_test (tm_op hr ha.tm hb.tm)⟩
theorem dt_val (ha : DE X z a ta ma) (he : ∀ whole, isTrue a X.env whole = (do let v ← whole; standAt a.pos; holding [v] (truthy v)) := by intro _; rfl) : DT X z a (tB ta) (fun ρ => bnd (ma ρ) asB) := ⟨pt_val ha.pe he, tm_testB ha.tm⟩
variable {tA tB' : TT} {mA mB : DEnv → M Bool} {rest : List Expr}
theorem tm_and (hA : TMt z tA mA) (hB : TMt z tB' mB) : TMt z (tAnd tA tB') (fun ρ => bnd (mA ρ) fun b => if b = true then mB ρ else ret false) := fun U σ H ρ Q Qd E w he h k =>
  hA U σ H ρ _ _ E w he h fun b H1 h1 e1 j1 => by
    cases b with
    | true => exact hB U σ H1 ρ Q Qd E (w.step e1 j1) he h1 fun b H2 h2 e2 j2 => k b H2 h2 (e1.trans e2) j2
    | false => exact k false H1 h1 e1 j1
theorem tm_or (hA : TMt z tA mA) (hB : TMt z tB' mB) : TMt z (tOr tA tB') (fun ρ => bnd (mA ρ) fun b => if b = true then ret true else mB ρ) := fun U σ H ρ Q Qd E w he h k =>
  hA U σ H ρ _ _ E w he h fun b H1 h1 e1 j1 => by
    cases b with
    | false => exact hB U σ H1 ρ Q Qd E (w.step e1 j1) he h1 fun b H2 h2 e2 j2 => k b H2 h2 (e1.trans e2) j2
    | true => exact k true H1 h1 e1 j1
theorem dw_and1 (ha : DT X z a tA mA) : DW X z (.BoolOp .And [a] pos) tA mA := ⟨pw_and1 ha.pe, ha.tm⟩
theorem dw_or1 (ha : DT X z a tA mA) : DW X z (.BoolOp .Or [a] pos) tA mA := ⟨pw_or1 ha.pe, ha.tm⟩
theorem dw_and (ha : DT X z a tA mA) (hb : DW X z (.BoolOp .And (b :: rest) pos) tB' mB) : DW X z (.BoolOp .And (a :: b :: rest) pos) (tAnd tA tB') (fun ρ => bnd (mA ρ) fun b => if b = true then mB ρ else ret false) := ⟨pw_and ha.pe hb.pe, tm_and ha.tm hb.tm⟩
theorem dw_or (ha : DT X z a tA mA) (hb : DW X z (.BoolOp .Or (b :: rest) pos) tB' mB) : DW X z (.BoolOp .Or (a :: b :: rest) pos) (tOr tA tB') (fun ρ => bnd (mA ρ) fun b => if b = true then ret true else mB ρ) := ⟨pw_or ha.pe hb.pe, tm_or ha.tm hb.tm⟩
theorem dt_w (h : DW X z a tA mA) : DT X z a tA mA := ⟨h.pe.pt, h.tm⟩
theorem dt_not (ha : DT X z a tA mA) : DT X z (.UnaryOp .Not a pos) (tNot tA) (fun ρ => bnd (mA ρ) fun b => ret (!b)) := ⟨pt_not ha.pe, fun U σ H ρ Q Qd E w he h k => ha.tm U σ H ρ _ _ E w he h fun b H1 h1 e1 j1 => k _ H1 h1 e1 j1⟩
/-- as values -/
theorem de_if (hc : DT X z c tA mA) (ha : DE X z a ta ma) (hb : DE X z b tb mb) : DE X z (.IfExp c a b pos) (tIf tA ta tb) (fun ρ => bnd (mA ρ) fun q => if q = true then ma ρ else mb ρ) := ⟨pe_ifExp hc.pe ha.pe hb.pe, fun U σ H ρ Q Qd E w he h k =>
  hc.tm U σ H ρ _ _ E w he h fun q H1 h1 e1 j1 => by
    cases q with
    | true => exact ha.tm U σ H1 ρ Q Qd E (w.step e1 j1) he h1 fun d v H2 h2 e2 j2 r2 => k d v H2 h2 (e1.trans e2) j2 r2
    | false => exact hb.tm U σ H1 ρ Q Qd E (w.step e1 j1) he h1 fun d v H2 h2 e2 j2 r2 => k d v H2 h2 (e1.trans e2) j2 r2⟩
end
end DL

/-! DOps: operators, comparisons, items, slices, built-in calls over data. -/
namespace DL
open PySem PySem.Spec PyProof.Rows L2

section
variable {K : PySem.W.Frag} {U : Addr → Prop} {H : Hp} {ds : List D} {xs : List V} {p : Addr}
theorem rep_tup_new (hU : ∀ a, U a → H a ≠ none) (h : H p = none) (r : Reps K U H ds xs) : Rep K U (upd H p (.tup xs)) (.tup ds) (.ref p) := by
  simp only [Rep]
  exact ⟨p, xs, rfl, .inl ⟨.inl upd_same, fun q => hU p q h⟩, Reps.mono' (fun a o e n => ⟨by rw [upd_ne (ne_of_none e h)]; exact e, n⟩) ds xs r⟩
theorem rep_lst_new (hU : ∀ a, U a → H a ≠ none) (h : H p = none) (r : Reps K U H ds xs) : Rep K U (upd H p (.lst xs)) (.lst ds) (.ref p) := by
  simp only [Rep]
  exact ⟨p, xs, rfl, ⟨upd_same, fun q => hU p q h⟩, Reps.mono' (fun a o e n => ⟨by rw [upd_ne (ne_of_none e h)]; exact e, n⟩) ds xs r⟩
theorem rep_tup_inv {d : List D} {v : V} (h : Rep K U H (.tup d) v) : ∃ a xs, v = .ref a ∧ TupAt K U H a xs ∧ Reps K U H d xs := by simpa only [Rep] using h
theorem rep_lst_inv {d : List D} {v : V} (h : Rep K U H (.lst d) v) : ∃ a xs, v = .ref a ∧ (H a = some (.lst xs) ∧ ¬ U a) ∧ Reps K U H d xs := by simpa only [Rep] using h
theorem rep_int {i : Int} : Rep K U H (.int i) (.int i) := by simp only [Rep]
theorem rep_bl {i : Bool} : Rep K U H (.bl i) (.bl i) := by simp only [Rep]
theorem rep_str {i : Str} : Rep K U H (.str i) (.str i) := by simp only [Rep]
theorem rep_non : Rep K U H .non .non := by simp only [Rep]
theorem rep_ty {n : String} : Rep K U H (.ty n) (.ty n) := by simp only [Rep]
theorem inv_int {i : Int} {v : V} (h : Rep K U H (.int i) v) : v = .int i := by simpa only [Rep] using h
theorem inv_bl {i : Bool} {v : V} (h : Rep K U H (.bl i) v) : v = .bl i := by simpa only [Rep] using h
theorem inv_str {i : Str} {v : V} (h : Rep K U H (.str i) v) : v = .str i := by simpa only [Rep] using h
theorem inv_non {v : V} (h : Rep K U H .non v) : v = .non := by simpa only [Rep] using h
theorem inv_ty {n : String} {v : V} (h : Rep K U H (.ty n) v) : v = .ty n := by simpa only [Rep] using h
theorem reps_ints : ∀ {ns : List Int} {xs : List V}, Reps K U H (ns.map D.int) xs → xs = ns.map V.int
  | [], xs, h => by simpa only [List.map, Reps] using h
  | n :: ns, xs, h => by
    simp only [List.map, Reps] at h
    obtain ⟨x, r, rfl, h1, h2⟩ := h
    rw [inv_int h1, reps_ints h2]
    rfl
theorem reps_bls : ∀ {ns : List Bool} {xs : List V}, Reps K U H (ns.map D.bl) xs → xs = ns.map V.bl
  | [], xs, h => by simpa only [List.map, Reps] using h
  | n :: ns, xs, h => by
    simp only [List.map, Reps] at h
    obtain ⟨x, r, rfl, h1, h2⟩ := h
    rw [inv_bl h1, reps_bls h2]
    rfl
theorem reps_strs : ∀ {ns : List Str} {xs : List V}, Reps K U H (ns.map D.str) xs → xs = ns.map V.str
  | [], xs, h => by simpa only [List.map, Reps] using h
  | n :: ns, xs, h => by
    simp only [List.map, Reps] at h
    obtain ⟨x, r, rfl, h1, h2⟩ := h
    rw [inv_str h1, reps_strs h2]
    rfl
theorem reps_of_ints : ∀ {ns : List Int}, Reps K U H (ns.map D.int) (ns.map V.int)
  | [] => Reps.nil
  | n :: ns => Reps.cons rep_int reps_of_ints
theorem reps_of_strs : ∀ {ns : List Str}, Reps K U H (ns.map D.str) (ns.map V.str)
  | [] => Reps.nil
  | n :: ns => Reps.cons rep_str reps_of_strs
theorem reps_of_bls : ∀ {ns : List Bool}, Reps K U H (ns.map D.bl) (ns.map V.bl)
  | [] => Reps.nil
  | n :: ns => Reps.cons rep_bl reps_of_bls
end

/-! ### arithmetic -/
abbrev mAdd (a b : D) : M D := fun Q _ => match a, b with
  | .int i, .int j => Q (.int (i + j))
  | .str x, .str y => x.length + y.length ≤ sizeLine ∧ Q (.str (x ++ y))
  | .tup x, .tup y => x.length + y.length ≤ sizeLine ∧ Q (.tup (x ++ y))
  | .lst x, .lst y => x.length + y.length ≤ sizeLine ∧ Q (.lst (x ++ y))
  | _, _ => False
abbrev rAddD (K : PySem.W.Frag) : R2 := fun x y H Q => rI0 (fun i j => .int (i + j)) x y H Q ∨ (∃ i j, x = .str i ∧ y = .str j ∧ i.length + j.length ≤ sizeLine ∧ Q (.str (i ++ j)) H) ∨ rCatA K x y H Q ∨ rCat x y H Q
theorem opAdd {X : Cx} : OpR X (binaryOp .Add) (rAddD X.K) := op_add.or (op_add_str.or (op_catA.or op_cat))
theorem rmAdd {z : Zc} : RM2 z (rAddD z.K) mAdd := fun U H a b x y Q Qd E gu hU j ra rb he h k => by
  match a, b, h with
  | .int i, .int l, h => exact .inl ⟨i, l, inv_int ra, inv_int rb, k _ _ H h (Ext.refl H) j rep_int⟩
  | .str i, .str l, h => exact .inr (.inl ⟨i, l, inv_str ra, inv_str rb, h.1, k _ _ H h.2 (Ext.refl H) j rep_str⟩)
  | .tup d, .tup e, h =>
    obtain ⟨p, xs, rfl, hp, r1⟩ := rep_tup_inv ra
    obtain ⟨q, ys, rfl, hq, r2⟩ := rep_tup_inv rb
    refine .inr (.inr (.inl ⟨p, q, xs, ys, rfl, rfl, hp.sq, hq.sq, by rw [r1.length, r2.length]; exact h.1, fun e => ?_, fun _ e => ?_, fun _ _ l hl => ?_⟩))
    · have e0 := r1.nil_iff.mp e
      subst e0
      exact k _ _ H h.2 (Ext.refl H) j rb
    · have e0 := r2.nil_iff.mp e
      subst e0
      have h2 : Qd (.tup (d ++ [])) := h.2
      rw [List.append_nil] at h2
      exact k _ _ H h2 (Ext.refl H) j ra
    · exact k _ _ _ h.2 (Ext.new hl) (z.g.new j hl) (rep_tup_new hU hl (r1.append r2))
  | .lst d, .lst e, h =>
    obtain ⟨p, xs, rfl, hp, r1⟩ := rep_lst_inv ra
    obtain ⟨q, ys, rfl, hq, r2⟩ := rep_lst_inv rb
    exact .inr (.inr (.inr ⟨p, q, xs, ys, rfl, rfl, hp.1, hq.1, by rw [r1.length, r2.length]; exact h.1, fun l hl => k _ _ _ h.2 (Ext.new hl) (z.g.new j hl) (rep_lst_new hU hl (r1.append r2))⟩))
abbrev mI2 (C : Int → Int → Prop) (f : Int → Int → D) (a b : D) : M D := fun Q _ => match a, b with
  | .int i, .int j => C i j ∧ Q (f i j)
  | _, _ => False
theorem rmI {z : Zc} {C : Int → Int → Prop} {g : Int → Int → V} {f : Int → Int → D} (r : ∀ K U H i j, Rep K U H (f i j) (g i j)) : RM2 z (rI C g) (mI2 C f) := fun U H a b x y Q Qd E gu hU j ra rb he h k => by
  match a, b, h with
  | .int i, .int l, h => exact ⟨i, l, inv_int ra, inv_int rb, h.1, k _ _ H h.2 (Ext.refl H) j (r _ _ _ _ _)⟩
abbrev mJ2 (f : Int → Int → D) (a b : D) : M D := fun Q _ => match a, b with
  | .int i, .int j => Q (f i j)
  | _, _ => False
theorem rmJ {z : Zc} {g : Int → Int → V} {f : Int → Int → D} (r : ∀ K U H i j, Rep K U H (f i j) (g i j)) : RM2 z (rI0 g) (mJ2 f) := fun U H a b x y Q Qd E gu hU j ra rb he h k => by
  match a, b, h with
  | .int i, .int l, h => exact ⟨i, l, inv_int ra, inv_int rb, k _ _ H h (Ext.refl H) j (r _ _ _ _ _)⟩
abbrev mSub : D → D → M D := mJ2 fun i j => .int (i - j)
theorem rmSub {z : Zc} : RM2 z (rI0 fun i j => .int (i - j)) mSub := rmJ fun _ _ _ _ _ => rep_int
/-- a product: one factor below 2^64, or both together below a million bits -/
def MulOk (i j : Int) : Prop := CMul i j ∨ CMulW i j
theorem opMul {X : Cx} : OpR X (binaryOp .Mult) (rI MulOk fun i j => .int (i * j)) := opI fun _ _ _ _ _ _ _ hc q => mul_int q (hc.elim (fun h => h.ok) fun h => h.ok)
abbrev mMul : D → D → M D := mI2 MulOk fun i j => .int (i * j)
theorem rmMul {z : Zc} : RM2 z (rI MulOk fun i j => .int (i * j)) mMul := rmI fun _ _ _ _ _ => rep_int
def DivOk (_ j : Int) : Prop := j ≠ 0 ∧ j.natAbs.log2 < 9000
theorem opDiv {X : Cx} : OpR X (binaryOp .FloorDiv) (rI DivOk fun i j => .int (i.fdiv j)) := opI fun _ _ _ _ _ _ _ hc q => floordiv_int hc.1 q (.inl (PyProof.noPylong_of_log2 hc.2))
abbrev mDiv : D → D → M D := mI2 DivOk fun i j => .int (i.fdiv j)
theorem rmDiv {z : Zc} : RM2 z (rI DivOk fun i j => .int (i.fdiv j)) mDiv := rmI fun _ _ _ _ _ => rep_int
abbrev mMod : D → D → M D := mI2 (fun _ j => j ≠ 0) fun i j => .int (i.fmod j)
theorem rmMod {z : Zc} : RM2 z (rI (fun _ j => j ≠ 0) fun i j => .int (i.fmod j)) mMod := rmI fun _ _ _ _ _ => rep_int
abbrev mPow : D → D → M D := mI2 CPow fun i j => .int (i ^ j.toNat)
theorem rmPow {z : Zc} : RM2 z (rI CPow fun i j => .int (i ^ j.toNat)) mPow := rmI fun _ _ _ _ _ => rep_int
abbrev mNeg (a : D) : M D := fun Q _ => match a with | .int i => Q (.int (-i)) | _ => False
theorem rmNeg {z : Zc} : RM1 z (rU fun i => .int (-i)) mNeg := fun U H a x Q Qd E gu hU j ra he h k => by
  match a, h with
  | .int i, h => exact ⟨i, inv_int ra, k _ _ H h (Ext.refl H) j rep_int⟩

/-! ### order -/
abbrev strLt (x y : Str) : Bool := decide (x.cps.toList < y.cps.toList)
abbrev mOrd (p : Int → Int → Bool) (q : Str → Str → Bool) (a b : D) : M D := fun Q _ => match a, b with
  | .int i, .int j => Q (.bl (p i j))
  | .str x, .str y => Q (.bl (q x y))
  | _, _ => False
abbrev rOrd (p : Int → Int → Bool) (q : Str → Str → Bool) : R2 := fun x y H Q => rI0 (fun i j => .bl (p i j)) x y H Q ∨ ∃ i j, x = .str i ∧ y = .str j ∧ Q (.bl (q i j)) H
theorem rmOrd {z : Zc} {p : Int → Int → Bool} {q : Str → Str → Bool} : RM2 z (rOrd p q) (mOrd p q) := fun U H a b x y Q Qd E gu hU j ra rb he h k => by
  match a, b, h with
  | .int i, .int l, h => exact .inl ⟨i, l, inv_int ra, inv_int rb, k _ _ H h (Ext.refl H) j rep_bl⟩
  | .str i, .str l, h => exact .inr ⟨i, l, inv_str ra, inv_str rb, k _ _ H h (Ext.refl H) j rep_bl⟩
theorem opLt {X : Cx} : OpR X (compareOp .Lt) (rOrd (fun i j => decide (i < j)) (fun x y => strLt x y)) := op_lt.or op_lt_str
theorem opLe {X : Cx} : OpR X (compareOp .LtE) (rOrd (fun i j => decide (i ≤ j)) (fun x y => !strLt y x)) := op_le.or op_le_str
theorem opGt {X : Cx} : OpR X (compareOp .Gt) (rOrd (fun i j => decide (j < i)) (fun x y => strLt y x)) := op_gt.or op_gt_str
theorem opGe {X : Cx} : OpR X (compareOp .GtE) (rOrd (fun i j => decide (j ≤ i)) (fun x y => !strLt x y)) := op_ge.or op_ge_str
abbrev mLt : D → D → M D := mOrd (fun i j => decide (i < j)) (fun x y => strLt x y)
abbrev mLe : D → D → M D := mOrd (fun i j => decide (i ≤ j)) (fun x y => !strLt y x)
abbrev mGt : D → D → M D := mOrd (fun i j => decide (j < i)) (fun x y => strLt y x)
abbrev mGe : D → D → M D := mOrd (fun i j => decide (j ≤ i)) (fun x y => !strLt x y)

/-! ### equality -/
mutual
/-- == of data -/
def eqD : D → D → Bool
  | .non, .non => true
  | .bl a, .bl b => a == b
  | .bl a, .int j => (if a then 1 else 0) == j
  | .int i, .bl b => i == (if b then 1 else 0)
  | .int i, .int j => i == j
  | .str x, .str y => x == y
  | .lst xs, .lst ys => eqDs xs ys
  | .tup xs, .tup ys => eqDs xs ys
  | _, _ => false
def eqDs : List D → List D → Bool
  | [], [] => true
  | x :: xs, y :: ys => eqD x y && eqDs xs ys
  | _, _ => false
end
mutual
/-- plain data -/
def plain : D → Bool
  | .non => true
  | .bl _ => true
  | .int _ => true
  | .str x => PyData.strOk x
  | .lst xs => plains xs
  | .tup xs => plains xs
  | _ => false
def plains : List D → Bool
  | [] => true
  | x :: xs => plain x && plains xs
end
mutual
def dep : D → Nat
  | .lst xs => deps xs + 1
  | .tup xs => deps xs + 1
  | _ => 0
def deps : List D → Nat
  | [] => 0
  | x :: xs => max (dep x) (deps xs)
end
mutual
def toPd : D → PyData
  | .non => .none
  | .bl b => .bool b
  | .int i => .int i
  | .str x => .str x
  | .lst xs => .list (toPds xs)
  | .tup xs => .tuple (toPds xs)
  | _ => .none
def toPds : List D → List PyData
  | [] => []
  | x :: xs => toPd x :: toPds xs
end
mutual
theorem dp_of {K : PySem.W.Frag} {U : Addr → Prop} {H : Hp} : ∀ (d : D) (v : V), plain d = true → Rep K U H d v → Dp K H v (toPd d)
  | .non, v, _, h => by rw [inv_non h]; exact .non
  | .bl b, v, _, h => by rw [inv_bl h]; exact .bl b
  | .int i, v, _, h => by rw [inv_int h]; exact .int i
  | .str x, v, _, h => by rw [inv_str h]; exact .str x
  | .lst ds, v, p, h => by
    obtain ⟨a, xs, rfl, ⟨h1, _⟩, r⟩ := rep_lst_inv h
    exact .lst (SqL.of h1) (dpAll_of ds xs (by simpa only [plain] using p) r)
  | .tup ds, v, p, h => by
    obtain ⟨a, xs, rfl, h1, r⟩ := rep_tup_inv h
    exact .tup h1.sq (dpAll_of ds xs (by simpa only [plain] using p) r)
  | .ty _, v, p, h => by simp [plain] at p
  | .obj _, v, p, h => by simp [plain] at p
  | .ins _ _ _, v, p, h => by simp [plain] at p
  | .dK _ _, v, p, h => by simp [plain] at p
  | .dT _ _, v, p, h => by simp [plain] at p
theorem dpAll_of {K : PySem.W.Frag} {U : Addr → Prop} {H : Hp} : ∀ (ds : List D) (vs : List V), plains ds = true → Reps K U H ds vs → DpAll K H vs (toPds ds)
  | [], vs, _, h => by
    simp only [Reps] at h
    rw [h]
    exact .nil
  | d :: ds, vs, p, h => by
    simp only [Reps] at h
    simp only [plains, Bool.and_eq_true] at p
    obtain ⟨x, r, rfl, h1, h2⟩ := h
    exact .cons (dp_of d x p.1 h1) (dpAll_of ds r p.2 h2)
end
mutual
theorem lay_of : ∀ d : D, plain d = true → (toPd d).canLay0 = true
  | .non, _ => by simp [toPd, PyData.canLay0]
  | .bl b, _ => by simp [toPd, PyData.canLay0]
  | .int i, _ => by simp [toPd, PyData.canLay0]
  | .str x, p => by simpa [toPd, PyData.canLay0, plain] using p
  | .lst ds, p => by
    simp only [plain] at p
    simp only [toPd, PyData.canLay0]
    exact lays_of ds p
  | .tup ds, p => by
    simp only [plain] at p
    simp only [toPd, PyData.canLay0]
    exact lays_of ds p
  | .ty _, p => by simp [plain] at p
  | .obj _, p => by simp [plain] at p
  | .ins _ _ _, p => by simp [plain] at p
  | .dK _ _, p => by simp [plain] at p
  | .dT _ _, p => by simp [plain] at p
theorem lays_of : ∀ ds : List D, plains ds = true → PyData.canLayAll0 (toPds ds) = true
  | [], _ => by simp [toPds, PyData.canLayAll0]
  | d :: ds, p => by
    simp only [plains, Bool.and_eq_true] at p
    simp only [toPds, PyData.canLayAll0, Bool.and_eq_true]
    exact ⟨lay_of d p.1, lays_of ds p.2⟩
end
mutual
theorem dep_of : ∀ d : D, (toPd d).depth = dep d
  | .non => by simp [toPd, dep, PyData.depth]
  | .bl b => by simp [toPd, dep, PyData.depth]
  | .int i => by simp [toPd, dep, PyData.depth]
  | .str x => by simp [toPd, dep, PyData.depth]
  | .lst ds => by simp only [toPd, dep, PyData.depth, deps_of ds]
  | .tup ds => by simp only [toPd, dep, PyData.depth, deps_of ds]
  | .ty _ => by simp [toPd, dep, PyData.depth]
  | .obj _ => by simp [toPd, dep, PyData.depth]
  | .ins _ _ _ => by simp [toPd, dep, PyData.depth]
  | .dK _ _ => by simp [toPd, dep, PyData.depth]
  | .dT _ _ => by simp [toPd, dep, PyData.depth]
theorem deps_of : ∀ ds : List D, PyData.depthAll (toPds ds) = deps ds
  | [] => by simp [toPds, deps, PyData.depthAll]
  | d :: ds => by simp only [toPds, deps, PyData.depthAll, dep_of d, deps_of ds]
end
mutual
theorem eqv_of : ∀ a b : D, plain a = true → plain b = true → PyData.eqv (toPd a) (toPd b) = eqD a b
  | a, b, pa, pb => by
    match a, b, pa, pb with
    | .lst xs, .lst ys, pa, pb =>
      simp only [plain] at pa pb
      simp only [toPd, PyData.eqv, eqD]
      exact eqvs_of xs ys pa pb
    | .tup xs, .tup ys, pa, pb =>
      simp only [plain] at pa pb
      simp only [toPd, PyData.eqv, eqD]
      exact eqvs_of xs ys pa pb
    | .ty _, _, pa, _ => simp [plain] at pa
    | .obj _, _, pa, _ => simp [plain] at pa
    | .ins _ _ _, _, pa, _ => simp [plain] at pa
    | .dK _ _, _, pa, _ => simp [plain] at pa
    | .dT _ _, _, pa, _ => simp [plain] at pa
    | .non, b, _, pb => cases b <;> first | (simp [plain] at pb; done) | simp [toPd, PyData.eqv, eqD]
    | .bl _, b, _, pb => cases b <;> first | (simp [plain] at pb; done) | simp [toPd, PyData.eqv, eqD]
    | .int _, b, _, pb => cases b <;> first | (simp [plain] at pb; done) | simp [toPd, PyData.eqv, eqD]
    | .str _, b, _, pb => cases b <;> first | (simp [plain] at pb; done) | simp [toPd, PyData.eqv, eqD]
    | .lst _, .non, _, _ => simp [toPd, PyData.eqv, eqD]
    | .lst _, .bl _, _, _ => simp [toPd, PyData.eqv, eqD]
    | .lst _, .int _, _, _ => simp [toPd, PyData.eqv, eqD]
    | .lst _, .str _, _, _ => simp [toPd, PyData.eqv, eqD]
    | .lst _, .tup _, _, _ => simp [toPd, PyData.eqv, eqD]
    | .lst _, .ty _, _, pb => simp [plain] at pb
    | .lst _, .obj _, _, pb => simp [plain] at pb
    | .lst _, .ins _ _ _, _, pb => simp [plain] at pb
    | .lst _, .dK _ _, _, pb => simp [plain] at pb
    | .lst _, .dT _ _, _, pb => simp [plain] at pb
    | .tup _, .non, _, _ => simp [toPd, PyData.eqv, eqD]
    | .tup _, .bl _, _, _ => simp [toPd, PyData.eqv, eqD]
    | .tup _, .int _, _, _ => simp [toPd, PyData.eqv, eqD]
    | .tup _, .str _, _, _ => simp [toPd, PyData.eqv, eqD]
    | .tup _, .lst _, _, _ => simp [toPd, PyData.eqv, eqD]
    | .tup _, .ty _, _, pb => simp [plain] at pb
    | .tup _, .obj _, _, pb => simp [plain] at pb
    | .tup _, .ins _ _ _, _, pb => simp [plain] at pb
    | .tup _, .dK _ _, _, pb => simp [plain] at pb
    | .tup _, .dT _ _, _, pb => simp [plain] at pb
theorem eqvs_of : ∀ a b : List D, plains a = true → plains b = true → PyData.eqvAll (toPds a) (toPds b) = eqDs a b
  | [], [], _, _ => by simp [toPds, PyData.eqvAll, eqDs]
  | [], y :: ys, _, _ => by simp [toPds, PyData.eqvAll, eqDs]
  | x :: xs, [], _, _ => by simp [toPds, PyData.eqvAll, eqDs]
  | x :: xs, y :: ys, pa, pb => by
    simp only [plains, Bool.and_eq_true] at pa pb
    simp only [toPds, PyData.eqvAll, eqDs, eqv_of x y pa.1 pb.1, eqvs_of xs ys pa.2 pb.2]
end
theorem shaped_of {d : D} (p : plain d = true) (h : dep d ≤ 64) : SeqAt.shaped (toPd d) = true := by
  unfold SeqAt.shaped
  rw [lay_of d p, dep_of d, decide_eq_true h]
  rfl
/-- single things -/
def isScal : D → Bool
  | .non => true
  | .bl _ => true
  | .int _ => true
  | .str _ => true
  | _ => false
theorem scal_of {K : PySem.W.Frag} {U : Addr → Prop} {H : Hp} {a b : D} {x y : V} (ha : isScal a = true) (hb : isScal b = true) (hab : ∀ (i : Bool) (j : Int), ¬ (a = .bl i ∧ b = .int j) ∧ ¬ (a = .int j ∧ b = .bl i)) (r : Rep K U H a x) (q : Rep K U H b y) : decide (x = y) = eqD a b := by
  match a, b, ha, hb with
  | .non, .non, _, _ => rw [inv_non r, inv_non q]; simp [eqD]
  | .non, .bl _, _, _ => rw [inv_non r, inv_bl q]; simp [eqD]
  | .non, .int _, _, _ => rw [inv_non r, inv_int q]; simp [eqD]
  | .non, .str _, _, _ => rw [inv_non r, inv_str q]; simp [eqD]
  | .bl _, .non, _, _ => rw [inv_bl r, inv_non q]; simp [eqD]
  | .bl i, .bl j, _, _ => rw [inv_bl r, inv_bl q]; cases i <;> cases j <;> simp [eqD]
  | .bl i, .int j, _, _ => exact absurd ⟨rfl, rfl⟩ (hab i j).1
  | .bl _, .str _, _, _ => rw [inv_bl r, inv_str q]; simp [eqD]
  | .int _, .non, _, _ => rw [inv_int r, inv_non q]; simp [eqD]
  | .int i, .bl j, _, _ => exact absurd ⟨rfl, rfl⟩ (hab j i).2
  | .int i, .int j, _, _ => rw [inv_int r, inv_int q]; simp only [eqD]; rw [dec_int]
  | .int _, .str _, _, _ => rw [inv_int r, inv_str q]; simp [eqD]
  | .str _, .non, _, _ => rw [inv_str r, inv_non q]; simp [eqD]
  | .str _, .bl _, _, _ => rw [inv_str r, inv_bl q]; simp [eqD]
  | .str _, .int _, _, _ => rw [inv_str r, inv_int q]; simp [eqD]
  | .str i, .str j, _, _ => rw [inv_str r, inv_str q]; simp only [eqD]; rw [dec_str]
/-- what == asks: texts beside texts any; else plain data -/
def EqOk (a b : D) : Prop := match a, b with
  | .int _, .int _ => True
  | .str _, .str _ => True
  | .bl _, .bl _ => True
  | _, _ => plain a = true ∧ plain b = true ∧ dep a ≤ 64 ∧ dep b ≤ 64
abbrev mEq (a b : D) : M D := fun Q _ => EqOk a b ∧ Q (.bl (eqD a b))
abbrev mNe (a b : D) : M D := fun Q _ => EqOk a b ∧ Q (.bl (!eqD a b))
theorem eqOk_cases {a b : D} (h : EqOk a b) : (∃ i j, a = .int i ∧ b = .int j) ∨ (∃ i j, a = .str i ∧ b = .str j) ∨ (∃ i j, a = .bl i ∧ b = .bl j) ∨ (plain a = true ∧ plain b = true ∧ dep a ≤ 64 ∧ dep b ≤ 64) := by
  unfold EqOk at h
  split at h
  · exact .inl ⟨_, _, rfl, rfl⟩
  · exact .inr (.inl ⟨_, _, rfl, rfl⟩)
  · exact .inr (.inr (.inl ⟨_, _, rfl, rfl⟩))
  · exact .inr (.inr (.inr h))
abbrev rEqDD (K : PySem.W.Frag) : R2 := fun x y H Q => rEq x y H Q ∨ rEqD K x y H Q
abbrev rNeDD (K : PySem.W.Frag) : R2 := fun x y H Q => rNe x y H Q ∨ rNeD K x y H Q
theorem opEq {X : Cx} {k : Nat} (hr : Room k X.A) : OpR X (compareOp .Eq) (rEqDD X.K) := op_eq.or (op_eqD hr.units)
theorem opNe {X : Cx} {k : Nat} (hr : Room k X.A) : OpR X (compareOp .NotEq) (rNeDD X.K) := op_ne.or (op_neD hr.units)
theorem rmEq {z : Zc} : RM2 z (rEqDD z.K) mEq := fun U H a b x y Q Qd E gu hU j ra rb he h k => by
  rcases eqOk_cases h.1 with ⟨i, l, rfl, rfl⟩ | ⟨i, l, rfl, rfl⟩ | ⟨i, l, rfl, rfl⟩ | ⟨p, q, d, e⟩
  · have e1 := inv_int ra; have e2 := inv_int rb
    subst e1; subst e2
    exact .inl ⟨rfl, by rw [dec_int]; exact k _ _ H (by simpa only [eqD] using h.2) (Ext.refl H) j rep_bl⟩
  · have e1 := inv_str ra; have e2 := inv_str rb
    subst e1; subst e2
    exact .inl ⟨rfl, by rw [dec_str]; exact k _ _ H (by simpa only [eqD] using h.2) (Ext.refl H) j rep_bl⟩
  · have e1 := inv_bl ra; have e2 := inv_bl rb
    subst e1; subst e2
    exact .inl ⟨rfl, by rw [dec_bl]; exact k _ _ H (by simpa only [eqD] using h.2) (Ext.refl H) j rep_bl⟩
  · exact .inr ⟨_, _, dp_of a x p ra, dp_of b y q rb, shaped_of p d, shaped_of q e, by rw [eqv_of a b p q]; exact k _ _ H h.2 (Ext.refl H) j rep_bl⟩
theorem rmNe {z : Zc} : RM2 z (rNeDD z.K) mNe := fun U H a b x y Q Qd E gu hU j ra rb he h k => by
  rcases eqOk_cases h.1 with ⟨i, l, rfl, rfl⟩ | ⟨i, l, rfl, rfl⟩ | ⟨i, l, rfl, rfl⟩ | ⟨p, q, d, e⟩
  · have e1 := inv_int ra; have e2 := inv_int rb
    subst e1; subst e2
    exact .inl ⟨rfl, by rw [dec_int]; exact k _ _ H (by simpa only [eqD] using h.2) (Ext.refl H) j rep_bl⟩
  · have e1 := inv_str ra; have e2 := inv_str rb
    subst e1; subst e2
    exact .inl ⟨rfl, by rw [dec_str]; exact k _ _ H (by simpa only [eqD] using h.2) (Ext.refl H) j rep_bl⟩
  · have e1 := inv_bl ra; have e2 := inv_bl rb
    subst e1; subst e2
    exact .inl ⟨rfl, by rw [dec_bl]; exact k _ _ H (by simpa only [eqD] using h.2) (Ext.refl H) j rep_bl⟩
  · exact .inr ⟨_, _, dp_of a x p ra, dp_of b y q rb, shaped_of p d, shaped_of q e, by rw [eqv_of a b p q]; exact k _ _ H h.2 (Ext.refl H) j rep_bl⟩

/-! ### is -/
def isNon : D → Bool
  | .non => true
  | _ => false
abbrev mIs (a b : D) : M D := fun Q _ => match b with
  | .non => Q (.bl (isNon a))
  | .bl c => match a with | .bl d => Q (.bl (decide (d = c))) | _ => False
  | _ => False
abbrev mIsNot (a b : D) : M D := fun Q _ => match b with
  | .non => Q (.bl (!isNon a))
  | .bl c => match a with | .bl d => Q (.bl (!decide (d = c))) | _ => False
  | _ => False
theorem non_iff {K : PySem.W.Frag} {U : Addr → Prop} {H : Hp} {a : D} {x : V} (r : Rep K U H a x) : decide (x = .non) = isNon a := by
  cases a with
  | non => rw [inv_non r]; rfl
  | bl b => rw [inv_bl r]; rfl
  | int b => rw [inv_int r]; rfl
  | str b => rw [inv_str r]; rfl
  | ty b => rw [inv_ty r]; rfl
  | obj b => simp only [Rep] at r; rw [r]; rfl
  | tup b => obtain ⟨a, xs, rfl, _⟩ := rep_tup_inv r; rfl
  | lst b => obtain ⟨a, xs, rfl, _⟩ := rep_lst_inv r; rfl
  | ins _ _ _ => simp only [Rep] at r; obtain ⟨_, _, _, rfl, _⟩ := r; rfl
  | dK _ _ => simp only [Rep] at r; obtain ⟨_, _, rfl, _⟩ := r; rfl
  | dT _ _ => simp only [Rep] at r; obtain ⟨_, _, rfl, _⟩ := r; rfl
abbrev rIsD : R2 := fun x y H Q => (y = .non ∧ Q (.bl (decide (x = .non))) H) ∨ rIsB x y H Q
abbrev rIsNotD : R2 := fun x y H Q => (y = .non ∧ Q (.bl (!decide (x = .non))) H) ∨ rNotB x y H Q
theorem opIs {X : Cx} : OpR X (compareOp .Is) rIsD := op_isN.or op_isBl
theorem opIsNot {X : Cx} : OpR X (compareOp .IsNot) rIsNotD := op_notN.or op_notBl
theorem rmIs {z : Zc} : RM2 z rIsD mIs := fun U H a b x y Q Qd E gu hU j ra rb he h k => by
  match b, h with
  | .non, h => exact .inl ⟨inv_non rb, by rw [non_iff ra]; exact k _ _ H h (Ext.refl H) j rep_bl⟩
  | .bl c, h =>
    match a, h with
    | .bl d, h => exact .inr ⟨d, c, inv_bl ra, inv_bl rb, k _ _ H h (Ext.refl H) j rep_bl⟩
theorem rmIsNot {z : Zc} : RM2 z rIsNotD mIsNot := fun U H a b x y Q Qd E gu hU j ra rb he h k => by
  match b, h with
  | .non, h => exact .inl ⟨inv_non rb, by
      rw [non_iff ra]
      exact k _ _ H h (Ext.refl H) j rep_bl⟩
  | .bl c, h =>
    match a, h with
    | .bl d, h => exact .inr ⟨d, c, inv_bl ra, inv_bl rb, k _ _ H h (Ext.refl H) j rep_bl⟩

/-! ### in -/
def isFlat : D → Bool
  | .non => true
  | .bl _ => true
  | .int _ => true
  | .str _ => true
  | _ => false
theorem flatV_of {K : PySem.W.Frag} {U : Addr → Prop} {H : Hp} {a : D} {x : V} (f : isFlat a = true) (r : Rep K U H a x) : flatV x = true := by
  cases a with
  | non => rw [inv_non r]; rfl
  | bl b => rw [inv_bl r]; rfl
  | int b => rw [inv_int r]; rfl
  | str b => rw [inv_str r]; rfl
  | _ => simp [isFlat] at f
theorem eqV_of {K : PySem.W.Frag} {U : Addr → Prop} {H : Hp} {a b : D} {x y : V} (f : isFlat a = true) (g : isFlat b = true) (r : Rep K U H a x) (q : Rep K U H b y) : eqV x y = eqD a b := by
  match a, b, f, g with
  | .non, .non, _, _ => rw [inv_non r, inv_non q]; simp [eqD, eqV]
  | .non, .bl _, _, _ => rw [inv_non r, inv_bl q]; simp [eqD, eqV]
  | .non, .int _, _, _ => rw [inv_non r, inv_int q]; simp [eqD, eqV]
  | .non, .str _, _, _ => rw [inv_non r, inv_str q]; simp [eqD, eqV]
  | .bl _, .non, _, _ => rw [inv_bl r, inv_non q]; simp [eqD, eqV]
  | .bl i, .bl j, _, _ => rw [inv_bl r, inv_bl q]; simp [eqD, eqV]
  | .bl i, .int j, _, _ => rw [inv_bl r, inv_int q]; simp [eqD, eqV]
  | .bl _, .str _, _, _ => rw [inv_bl r, inv_str q]; simp [eqD, eqV]
  | .int _, .non, _, _ => rw [inv_int r, inv_non q]; simp [eqD, eqV]
  | .int i, .bl j, _, _ => rw [inv_int r, inv_bl q]; simp [eqD, eqV]
  | .int i, .int j, _, _ => rw [inv_int r, inv_int q]; simp [eqD, eqV]
  | .int _, .str _, _, _ => rw [inv_int r, inv_str q]; simp [eqD, eqV]
  | .str _, .non, _, _ => rw [inv_str r, inv_non q]; simp [eqD, eqV]
  | .str _, .bl _, _, _ => rw [inv_str r, inv_bl q]; simp [eqD, eqV]
  | .str _, .int _, _, _ => rw [inv_str r, inv_int q]; simp [eqD, eqV]
  | .str i, .str j, _, _ => rw [inv_str r, inv_str q]; simp [eqD, eqV]
/-- x in some things -/
def inD (x : D) (ds : List D) : Bool := ds.any fun d => eqD d x
theorem all_flatV {K : PySem.W.Frag} {U : Addr → Prop} {H : Hp} : ∀ {ds : List D} {xs : List V}, ds.all isFlat = true → Reps K U H ds xs → xs.all flatV = true
  | [], xs, _, h => by simp only [Reps] at h; rw [h]; rfl
  | d :: ds, xs, f, h => by
    simp only [Reps] at h
    obtain ⟨x, r, rfl, h1, h2⟩ := h
    simp only [List.all_cons, Bool.and_eq_true] at f ⊢
    exact ⟨flatV_of f.1 h1, all_flatV f.2 h2⟩
theorem inV_of {K : PySem.W.Frag} {U : Addr → Prop} {H : Hp} {a : D} {x : V} (f : isFlat a = true) (r : Rep K U H a x) : ∀ {ds : List D} {xs : List V}, ds.all isFlat = true → Reps K U H ds xs → inV x xs = inD a ds
  | [], xs, _, h => by simp only [Reps] at h; rw [h]; rfl
  | d :: ds, xs, g, h => by
    simp only [Reps] at h
    obtain ⟨y, t, rfl, h1, h2⟩ := h
    simp only [List.all_cons, Bool.and_eq_true] at g
    have ih := inV_of f r g.2 h2
    unfold inV inD at *
    rw [List.any_cons, List.any_cons, eqV_of g.1 f h1 r, ih]
/-- one text in another one -/
def inS (x y : Str) : Bool := !(Builtin.Str.occurrences y x 0 y.length 1).isEmpty
abbrev mInB (neg : Bool) (a b : D) : M D := fun Q _ => match b with
  | .str y => match a with | .str x => Q (.bl (if neg then !inS x y else inS x y)) | _ => False
  | .tup ds => isFlat a = true ∧ ds.all isFlat = true ∧ Q (.bl (if neg then !inD a ds else inD a ds))
  | .lst ds => (isFlat a = true ∧ ds.all isFlat = true ∧ Q (.bl (if neg then !inD a ds else inD a ds)))
  | _ => False
abbrev mIn : D → D → M D := mInB false
abbrev mNotIn : D → D → M D := mInB true
abbrev rInDD (K : PySem.W.Frag) (neg : Bool) : R2 := fun x y H Q => rIn K neg x y H Q ∨ ∃ i j, x = .str i ∧ y = .str j ∧ Q (.bl (if neg then !inS i j else inS i j)) H
theorem opIn {X : Cx} : OpR X (compareOp .In) (rInDD X.K false) := op_in_seq.or op_in_str
theorem opNotIn {X : Cx} : OpR X (compareOp .NotIn) (rInDD X.K true) := op_notIn_seq.or op_notIn_str
theorem rmIn {z : Zc} {neg : Bool} : RM2 z (rInDD z.K neg) (mInB neg) := fun U H a b x y Q Qd E gu hU j ra rb he h k => by
  match b, h with
  | .str i, h =>
    match a, h with
    | .str l, h => exact .inr ⟨l, i, inv_str ra, inv_str rb, k _ _ H h (Ext.refl H) j rep_bl⟩
  | .tup ds, h =>
    obtain ⟨p, xs, rfl, hp, r⟩ := rep_tup_inv rb
    exact .inl ⟨p, xs, rfl, .inr hp.sq, flatV_of h.1 ra, all_flatV h.2.1 r, by rw [inV_of h.1 ra h.2.1 r]; exact k _ _ H h.2.2 (Ext.refl H) j rep_bl⟩
  | .lst ds, h =>
    obtain ⟨p, xs, rfl, hp, r⟩ := rep_lst_inv rb
    exact .inl ⟨p, xs, rfl, .inl (SqL.of hp.1), flatV_of h.1 ra, all_flatV h.2.1 r, by rw [inV_of h.1 ra h.2.1 r]; exact k _ _ H h.2.2 (Ext.refl H) j rep_bl⟩

/-! ### items -/
abbrev mIx (a b : D) : M D := fun Q _ => match a, b with
  | .tup ds, .int i => match atI ds i with | some d => Q d | none => False
  | .lst ds, .int i => match atI ds i with | some d => Q d | none => False
  | .str x, .int i => x.length ≤ sizeLine ∧ match atI x.cps.toList i with | some c => Q (.str ⟨#[c]⟩) | none => False
  | _, _ => False
theorem atI_rep {K : PySem.W.Frag} {U : Addr → Prop} {H : Hp} {ds : List D} {xs : List V} {i : Int} {d : D} (r : Reps K U H ds xs) (h : atI ds i = some d) : ∃ v, atI xs i = some v ∧ Rep K U H d v := by
  unfold atI at *
  rw [r.length]
  cases q : ixN ds.length i with
  | none => rw [q] at h; cases h
  | some j =>
    rw [q] at h
    exact r.getD h
theorem rmIx {z : Zc} : RM2 z (rIx z.K) mIx := fun U H a b x y Q Qd E gu hU j ra rb he h k => by
  match a, b, h with
  | .tup ds, .int i, h =>
    obtain ⟨p, xs, rfl, hp, r⟩ := rep_tup_inv ra
    have h : (match atI ds i with | some d => Qd d | none => False) := h
    cases q : atI ds i with
    | none => rw [q] at h; exact h.elim
    | some d =>
      rw [q] at h
      obtain ⟨v, e, rv⟩ := atI_rep r q
      exact .inr (.inl ⟨p, xs, i, v, rfl, inv_int rb, hp.sq, e, k _ _ H h (Ext.refl H) j rv⟩)
  | .lst ds, .int i, h =>
    obtain ⟨p, xs, rfl, hp, r⟩ := rep_lst_inv ra
    have h : (match atI ds i with | some d => Qd d | none => False) := h
    cases q : atI ds i with
    | none => rw [q] at h; exact h.elim
    | some d =>
      rw [q] at h
      obtain ⟨v, e, rv⟩ := atI_rep r q
      exact .inl ⟨p, xs, i, v, rfl, inv_int rb, SqL.of hp.1, e, k _ _ H h (Ext.refl H) j rv⟩
  | .str s, .int i, h =>
    have h : s.length ≤ sizeLine ∧ (match atI s.cps.toList i with | some c => Qd (.str ⟨#[c]⟩) | none => False) := h
    cases q : atI s.cps.toList i with
    | none => rw [q] at h; exact h.2.elim
    | some d =>
      rw [q] at h
      exact .inr (.inr ⟨s, i, d, inv_str ra, inv_int rb, h.1, q, k _ _ H h.2 (Ext.refl H) j rep_str⟩)
section
variable {X : Cx} {z : Zc} {a b : Expr} {ta tb : TE} {ma mb : DEnv → M D} {pos p2 : Pos}
theorem de_ix (hK : X.K = z.K) (ha : DE X z a ta ma) (hb : DE X z b tb mb) (hs : PlainIx b := by exact fun _ _ => rfl) : DE X z (.Subscript a b pos) (tOp (rIx z.K) ta tb) (fun ρ => bnd (ma ρ) fun x => bnd (mb ρ) fun y => mIx x y) :=
  ⟨by rw [← hK]; exact pe_ix ix_seq ha.pe hb.pe hs, tm_op rmIx ha.tm hb.tm⟩

/-! ### slices -/
def TMo (z : Zc) (to : TO) (m : DEnv → M (Option Int)) : Prop := ∀ (U : Addr → Prop) (σ : L2.St) (H : Hp) (ρ : DEnv) (Q : Option Int → Hp → Prop) (Qd : Option Int → Prop) (E : DX → Prop), WR z U σ H ρ → (∀ x, E x → z.Ed x) → m ρ Qd E →
  (∀ b H', Qd b → Ext z.g.G H H' → z.g.J H' → Q b H') → to σ H Q
structure DO (X : Cx) (z : Zc) (e : Option Expr) (te : TO) (m : DEnv → M (Option Int)) : Prop where
  pe : PO X e te
  tm : TMo z te m
theorem do_none : DO X z none tNoPart (fun _ => ret none) := ⟨po_none, fun U σ H ρ Q Qd E w he h k => k none H h (Ext.refl H) w.j⟩
abbrev asI (d : D) : M (Option Int) := fun Q _ => match d with | .int i => Q (some i) | _ => False
theorem do_some (ha : DE X z a ta ma) : DO X z (some a) (tPart ta) (fun ρ => bnd (ma ρ) asI) := ⟨po_some ha.pe, fun U σ H ρ Q Qd E w he h k => ha.tm U σ H ρ _ _ E w he h fun d v H1 h1 e1 j1 r1 => by
  match d, h1 with
  | .int i, h1 => exact ⟨i, inv_int r1, k (some i) H1 h1 e1 j1⟩⟩
def cutD {α : Type} (xs : List α) (lo hi : Option Int) : List α := (xs.drop (HT.sIx xs.length 0 lo)).take (HT.sIx xs.length xs.length hi - HT.sIx xs.length 0 lo)
abbrev mSl (a : D) (lo hi : Option Int) : M D := fun Q _ => match a with
  | .tup ds => Q (.tup (cutD ds lo hi))
  | .lst ds => Q (.lst (cutD ds lo hi))
  | .str x => x.length ≤ sizeLine ∧ Q (.str (cutS x lo hi))
  | _ => False
abbrev rSlD (K : PySem.W.Frag) : V → Option Int → Option Int → Hp → VK → Prop := fun x lo hi H Q => rSlA K x lo hi H Q ∨ rSlL K x lo hi H Q ∨ rSlS x lo hi H Q
theorem slD : SlR X (rSlD X.K) := sl_tupA.or (sl_list.or sl_str)
theorem cut_reps {K : PySem.W.Frag} {U : Addr → Prop} {H : Hp} {ds : List D} {xs : List V} (r : Reps K U H ds xs) (lo hi : Option Int) : Reps K U H (cutD ds lo hi) (cutV xs lo hi) := by
  unfold cutD cutV
  rw [r.length]
  exact (r.drop _).take _
theorem cut_whole {α : Type} {xs : List α} {lo hi : Option Int} (h : HT.sIx xs.length 0 lo = 0 ∧ HT.sIx xs.length xs.length hi = xs.length) : cutD xs lo hi = xs := by
  unfold cutD
  rw [h.1, h.2]
  simp
variable {el eu : Option Expr} {tl th : TO} {ml mu : DEnv → M (Option Int)}
theorem tm_slice (ha : TMe z ta ma) (hl : TMo z tl ml) (hu : TMo z th mu) : TMe z (tSl (rSlD z.K) ta tl th) (fun ρ => bnd (ma ρ) fun x => bnd (ml ρ) fun l => bnd (mu ρ) fun u => mSl x l u) := fun U σ H ρ Q Qd E w he h k =>
  ha U σ H ρ _ _ E w he h fun d v H1 h1 e1 j1 r1 => hl U σ H1 ρ _ _ E (w.step e1 j1) he h1 fun l H2 h2 e2 j2 => hu U σ H2 ρ _ _ E ((w.step e1 j1).step e2 j2) he h2 fun u H3 h3 e3 j3 => by
    have w3 := ((w.step e1 j1).step e2 j2).step e3 j3
    have r3 := (r1.ext e2 w.gu).ext e3 w.gu
    have e13 := (e1.trans e2).trans e3
    match d, h3 with
    | .tup ds, h3 =>
      obtain ⟨p, xs, rfl, hp, r⟩ := rep_tup_inv r3
      refine .inl ⟨p, xs, rfl, hp.sq, fun q => ?_, fun _ l hl => ?_⟩
      · rw [r.length] at q
        have h4 : Qd (.tup (cutD ds l u)) := h3
        rw [cut_whole q] at h4
        exact k _ _ H3 h4 e13 j3 r3
      · exact k _ _ _ h3 (e13.trans (Ext.new hl)) (z.g.new j3 hl) (rep_tup_new w3.dom hl (cut_reps r _ _))
    | .lst ds, h3 =>
      obtain ⟨p, xs, rfl, hp, r⟩ := rep_lst_inv r3
      exact .inr (.inl ⟨p, xs, rfl, SqL.of hp.1, fun l hl => k _ _ _ h3 (e13.trans (Ext.new hl)) (z.g.new j3 hl) (rep_lst_new w3.dom hl (cut_reps r _ _))⟩)
    | .str x, h3 => exact .inr (.inr ⟨x, inv_str r3, h3.1, k _ _ H3 h3.2 e13 j3 rep_str⟩)
theorem de_slice (hK : X.K = z.K) (ha : DE X z a ta ma) (hl : DO X z el tl ml) (hu : DO X z eu th mu) : DE X z (.Subscript a (.Slice el eu none p2) pos) (tSl (rSlD z.K) ta tl th) (fun ρ => bnd (ma ρ) fun x => bnd (ml ρ) fun l => bnd (mu ρ) fun u => mSl x l u) :=
  ⟨by rw [← hK]; exact pe_slice slD ha.pe hl.pe hu.pe, tm_slice ha.tm hl.tm hu.tm⟩

/-! ### arguments, displays -/
variable {es : List Expr} {tr : TA} {mr : DEnv → M (List D)}
theorem da_nil : DA X z [] tNil (fun _ => ret []) := ⟨pa_nil, fun U σ H ρ Q Qd E w he h k => k [] [] H h (Ext.refl H) w.j Reps.nil⟩
theorem da_cons (ha : DE X z a ta ma) (hr : DA X z es tr mr) (hs : starEach (a :: es) X.env = (false, eval a X.env) :: starEach es X.env := by rfl) : DA X z (a :: es) (tCons ta tr) (fun ρ => bnd (ma ρ) fun x => bnd (mr ρ) fun xs => ret (x :: xs)) :=
  ⟨pa_cons ha.pe hr.pe hs, fun U σ H ρ Q Qd E w he h k => ha.tm U σ H ρ _ _ E w he h fun d v H1 h1 e1 j1 r1 => hr.tm U σ H1 ρ _ _ E (w.step e1 j1) he h1 fun ds vs H2 h2 e2 j2 r2 => k _ _ H2 h2 (e1.trans e2) j2 (Reps.cons (r1.ext e2 w.gu) r2)⟩
abbrev mTup (ds : List D) : M D := fun Q _ => ds.length ≤ sizeLine ∧ Q (.tup ds)
abbrev mLst (ds : List D) : M D := fun Q _ => ds.length ≤ sizeLine ∧ Q (.lst ds)
theorem de_tup {k : Nat} (h : DA X z es tr mr) : DE X z (.Tuple es k pos) (tTup tr) (fun ρ => bnd (mr ρ) mTup) := ⟨pe_tup h.pe, fun U σ H ρ Q Qd E w he hm k => h.tm U σ H ρ _ _ E w he hm fun ds vs H1 h1 e1 j1 r1 =>
  ⟨by rw [r1.length]; exact h1.1, fun p hp => k _ _ _ h1.2 (e1.trans (Ext.new hp)) (z.g.new j1 hp) (rep_tup_new (w.step e1 j1).dom hp r1)⟩⟩
theorem de_lst (h : DA X z es tr mr) : DE X z (.List es pos) (tLst tr) (fun ρ => bnd (mr ρ) mLst) := ⟨pe_lst h.pe, fun U σ H ρ Q Qd E w he hm k => h.tm U σ H ρ _ _ E w he hm fun ds vs H1 h1 e1 j1 r1 =>
  ⟨by rw [r1.length]; exact h1.1, fun p hp => k _ _ _ h1.2 (e1.trans (Ext.new hp)) (z.g.new j1 hp) (rep_lst_new (w.step e1 j1).dom hp r1)⟩⟩

/-! ### built-in calls -/
variable {r : List V → Hp → VK → Prop} {m : List D → M D} {x : Str} {id T : String} {pp : Pos}
theorem tm_cb (hr : RMn z r m) (h : TMa z tr mr) : TMe z (tCB r tr) (fun ρ => bnd (mr ρ) m) := fun U σ H ρ Q Qd E w he hm k =>
  h U σ H ρ _ _ E w he hm fun ds vs H1 h1 e1 j1 r1 => hr U H1 ds vs Q Qd E w.gu (w.step e1 j1).dom j1 r1 he h1 fun d v H' q e2 j2 r2 => k d v H' q (e1.trans e2) j2 r2
theorem de_cb (hc : CallR X (.builtin id) r) (hr : RMn z r m) (hm : X.mg x = none) (hv : bootBuiltins x = some (.builtin id)) (ha : DA X z (a :: es) tr mr) (hg : Gl X x := by rfl) (hn : x ≠ "__name__" := by decide) (hdb : (x == ("__debug__" : Str)) = false := by decide)
    (he : starEach (a :: es) X.env = (false, eval a X.env) :: starEach es X.env := by rfl) (hpl : (backTo pos (starEach es X.env)).any (·.1) = false := by rfl) : DE X z (.Call (.Name x pp) (a :: es) [] pos) (tCB r tr) (fun ρ => bnd (mr ρ) m) :=
  ⟨pe_callB hc hg hm hv ha.pe hn hdb he hpl, tm_cb hr ha.tm⟩
theorem de_ct (hc : CallR X (.type T) r) (hr : RMn z r m) (hm : X.mg x = none) (hv : bootBuiltins x = some (.type T)) (ha : DA X z (a :: es) tr mr) (hg : Gl X x := by rfl) (hn : x ≠ "__name__" := by decide) (hdb : (x == ("__debug__" : Str)) = false := by decide)
    (he : starEach (a :: es) X.env = (false, eval a X.env) :: starEach es X.env := by rfl) (hpl : (backTo pos (starEach es X.env)).any (·.1) = false := by rfl) : DE X z (.Call (.Name x pp) (a :: es) [] pos) (tCB r tr) (fun ρ => bnd (mr ρ) m) :=
  ⟨pe_callTy hc hg hm hv ha.pe hn hdb he hpl, tm_cb hr ha.tm⟩
/-- a module's own name for a built-in function -/
theorem de_cbf (hc : CallR X (.builtin id) r) (hr : RMn z r m) (hm : X.mg x = some (.builtin id)) (ha : DA X z (a :: es) tr mr) (hg : Gl X x := by rfl) (hdb : (x == ("__debug__" : Str)) = false := by decide)
    (he : starEach (a :: es) X.env = (false, eval a X.env) :: starEach es X.env := by rfl) (hpl : (backTo pos (starEach es X.env)).any (·.1) = false := by rfl) : DE X z (.Call (.Name x pp) (a :: es) [] pos) (tCB r tr) (fun ρ => bnd (mr ρ) m) :=
  ⟨pe_callBfun hc hg hm ha.pe hdb he hpl, tm_cb hr ha.tm⟩
abbrev m1 (f : D → M D) (ds : List D) : M D := fun Q E => match ds with | [d] => f d Q E | _ => False
abbrev m2 (f : D → D → M D) (ds : List D) : M D := fun Q E => match ds with | [d, e] => f d e Q E | _ => False
theorem rmn1 {r : List V → Hp → VK → Prop} {f : D → M D} (h : RM1 z (fun x => r [x]) f) : RMn z r (m1 f) := fun U H ds xs Q Qd E gu hU j rs he hm k => by
  match ds, hm with
  | [d], hm =>
    simp only [Reps] at rs
    obtain ⟨x, t, rfl, r1, rfl⟩ := rs
    exact h U H d x Q Qd E gu hU j r1 he hm k
theorem rmn2 {r : List V → Hp → VK → Prop} {f : D → D → M D} (h : RM2 z (fun x y => r [x, y]) f) : RMn z r (m2 f) := fun U H ds xs Q Qd E gu hU j rs he hm k => by
  match ds, hm with
  | [d, e], hm =>
    simp only [Reps] at rs
    obtain ⟨x, t, rfl, r1, y, u, rfl, r2, rfl⟩ := rs
    exact h U H d e x y Q Qd E gu hU j r1 r2 he hm k
abbrev mLen (d : D) : M D := fun Q _ => match d with
  | .tup ds => Q (.int ds.length)
  | .lst ds => Q (.int ds.length)
  | .str x => x.length ≤ sizeLine ∧ Q (.int x.length)
  | _ => False
abbrev rLenD (K : PySem.W.Frag) : List V → Hp → VK → Prop := fun xs H Q => (∃ p ys, xs = [.ref p] ∧ (SqL K H p ys ∨ SqT K H p ys) ∧ Q (.int ys.length) H) ∨ ∃ z, xs = [.str z] ∧ z.length ≤ sizeLine ∧ Q (.int z.length) H
theorem crLen : CallR X (.builtin "len") (rLenD X.K) := call_len_seq.or call_len_str
theorem rmLen : RMn z (rLenD z.K) (m1 mLen) := rmn1 fun U H a x Q Qd E gu hU j ra he h k => by
  match a, h with
  | .tup ds, h =>
    obtain ⟨p, xs, rfl, hp, r⟩ := rep_tup_inv ra
    exact .inl ⟨p, xs, rfl, .inr hp.sq, by rw [r.length]; exact k _ _ H h (Ext.refl H) j rep_int⟩
  | .lst ds, h =>
    obtain ⟨p, xs, rfl, hp, r⟩ := rep_lst_inv ra
    exact .inl ⟨p, xs, rfl, .inl (SqL.of hp.1), by rw [r.length]; exact k _ _ H h (Ext.refl H) j rep_int⟩
  | .str s, h => exact .inr ⟨s, by rw [inv_str ra], h.1, k _ _ H h.2 (Ext.refl H) j rep_int⟩
abbrev mTupOf (d : D) : M D := fun Q _ => match d with
  | .tup ds => Q (.tup ds)
  | .lst ds => Q (.tup ds)
  | _ => False
abbrev mLstOf (d : D) : M D := fun Q _ => match d with
  | .tup ds => Q (.lst ds)
  | .lst ds => Q (.lst ds)
  | _ => False
abbrev rTupOf (K : PySem.W.Frag) : List V → Hp → VK → Prop := fun xs H Q => ∃ p ys, xs = [.ref p] ∧ ((SqL K H p ys ∧ ∀ l, H l = none → Q (.ref l) (upd H l (.tup ys))) ∨ (SqT K H p ys ∧ Q (.ref p) H))
abbrev rLstOf (K : PySem.W.Frag) : List V → Hp → VK → Prop := fun xs H Q => ∃ p ys, xs = [.ref p] ∧ (SqL K H p ys ∨ SqT K H p ys) ∧ ∀ l, H l = none → Q (.ref l) (upd H l (.lst ys))
theorem crTup : CallR X (.type "tuple") (rTupOf X.K) := call_tuple_of
theorem crLst : CallR X (.type "list") (rLstOf X.K) := call_list_of
theorem rmTup : RMn z (rTupOf z.K) (m1 mTupOf) := rmn1 fun U H a x Q Qd E gu hU j ra he h k => by
  match a, h with
  | .tup ds, h =>
    obtain ⟨p, xs, rfl, hp, r⟩ := rep_tup_inv ra
    exact ⟨p, xs, rfl, .inr ⟨hp.sq, k _ _ H h (Ext.refl H) j ra⟩⟩
  | .lst ds, h =>
    obtain ⟨p, xs, rfl, hp, r⟩ := rep_lst_inv ra
    exact ⟨p, xs, rfl, .inl ⟨SqL.of hp.1, fun l hl => k _ _ _ h (Ext.new hl) (z.g.new j hl) (rep_tup_new hU hl r)⟩⟩
theorem rmLst : RMn z (rLstOf z.K) (m1 mLstOf) := rmn1 fun U H a x Q Qd E gu hU j ra he h k => by
  match a, h with
  | .tup ds, h =>
    obtain ⟨p, xs, rfl, hp, r⟩ := rep_tup_inv ra
    exact ⟨p, xs, rfl, .inr hp.sq, fun l hl => k _ _ _ h (Ext.new hl) (z.g.new j hl) (rep_lst_new hU hl r)⟩
  | .lst ds, h =>
    obtain ⟨p, xs, rfl, hp, r⟩ := rep_lst_inv ra
    exact ⟨p, xs, rfl, .inl (SqL.of hp.1), fun l hl => k _ _ _ h (Ext.new hl) (z.g.new j hl) (rep_lst_new hU hl r)⟩
/-- the ints of a list, if they are such -/
def intsOf : List D → Option (List Int)
  | [] => some []
  | .int i :: r => (intsOf r).map (i :: ·)
  | _ :: _ => none
theorem intsOf_eq : ∀ {ds : List D} {ns : List Int}, intsOf ds = some ns → ds = ns.map D.int
  | [], ns, h => by simp [intsOf] at h; subst h; rfl
  | .int i :: r, ns, h => by
    simp only [intsOf, Option.map_eq_some_iff] at h
    obtain ⟨m, h1, rfl⟩ := h
    rw [intsOf_eq h1]
    rfl
  | .non :: _, _, h => by simp [intsOf] at h
  | .bl _ :: _, _, h => by simp [intsOf] at h
  | .str _ :: _, _, h => by simp [intsOf] at h
  | .ty _ :: _, _, h => by simp [intsOf] at h
  | .obj _ :: _, _, h => by simp [intsOf] at h
  | .tup _ :: _, _, h => by simp [intsOf] at h
  | .lst _ :: _, _, h => by simp [intsOf] at h
  | .ins _ _ _ :: _, _, h => by simp [intsOf] at h
  | .dK _ _ :: _, _, h => by simp [intsOf] at h
  | .dT _ _ :: _, _, h => by simp [intsOf] at h
theorem intsOf_map : ∀ ns : List Int, intsOf (ns.map D.int) = some ns
  | [] => rfl
  | n :: ns => by simp [intsOf, intsOf_map ns]
def blsOf : List D → Option (List Bool)
  | [] => some []
  | .bl i :: r => (blsOf r).map (i :: ·)
  | _ :: _ => none
theorem blsOf_eq : ∀ {ds : List D} {ns : List Bool}, blsOf ds = some ns → ds = ns.map D.bl
  | [], ns, h => by simp [blsOf] at h; subst h; rfl
  | .bl i :: r, ns, h => by
    simp only [blsOf, Option.map_eq_some_iff] at h
    obtain ⟨m, h1, rfl⟩ := h
    rw [blsOf_eq h1]
    rfl
  | .non :: _, _, h => by simp [blsOf] at h
  | .int _ :: _, _, h => by simp [blsOf] at h
  | .str _ :: _, _, h => by simp [blsOf] at h
  | .ty _ :: _, _, h => by simp [blsOf] at h
  | .obj _ :: _, _, h => by simp [blsOf] at h
  | .tup _ :: _, _, h => by simp [blsOf] at h
  | .lst _ :: _, _, h => by simp [blsOf] at h
  | .ins _ _ _ :: _, _, h => by simp [blsOf] at h
  | .dK _ _ :: _, _, h => by simp [blsOf] at h
  | .dT _ _ :: _, _, h => by simp [blsOf] at h
theorem blsOf_map : ∀ ns : List Bool, blsOf (ns.map D.bl) = some ns
  | [] => rfl
  | n :: ns => by simp [blsOf, blsOf_map ns]
def strsOf : List D → Option (List Str)
  | [] => some []
  | .str i :: r => (strsOf r).map (i :: ·)
  | _ :: _ => none
theorem strsOf_eq : ∀ {ds : List D} {ns : List Str}, strsOf ds = some ns → ds = ns.map D.str
  | [], ns, h => by simp [strsOf] at h; subst h; rfl
  | .str i :: r, ns, h => by
    simp only [strsOf, Option.map_eq_some_iff] at h
    obtain ⟨m, h1, rfl⟩ := h
    rw [strsOf_eq h1]
    rfl
  | .non :: _, _, h => by simp [strsOf] at h
  | .int _ :: _, _, h => by simp [strsOf] at h
  | .bl _ :: _, _, h => by simp [strsOf] at h
  | .ty _ :: _, _, h => by simp [strsOf] at h
  | .obj _ :: _, _, h => by simp [strsOf] at h
  | .tup _ :: _, _, h => by simp [strsOf] at h
  | .lst _ :: _, _, h => by simp [strsOf] at h
  | .ins _ _ _ :: _, _, h => by simp [strsOf] at h
  | .dK _ _ :: _, _, h => by simp [strsOf] at h
  | .dT _ _ :: _, _, h => by simp [strsOf] at h
theorem strsOf_map : ∀ ns : List Str, strsOf (ns.map D.str) = some ns
  | [] => rfl
  | n :: ns => by simp [strsOf, strsOf_map ns]
/-- all, any of a list of truth values -/
abbrev mAllL (f : List Bool → Bool) (d : D) : M D := fun Q _ => match d with
  | .lst ds => match blsOf ds with | some bs => Q (.bl (f bs)) | none => False
  | _ => False
abbrev mAll : D → M D := mAllL fun bs => bs.all _root_.id
abbrev mAny : D → M D := mAllL fun bs => bs.any _root_.id
theorem rmBls {K : PySem.W.Frag} {f : List Bool → Bool} (e : K = z.K) : RMn z (fun vs H Q => ∃ (a : Addr) (bs : List Bool), vs = [V.ref a] ∧ SqL K H a (bs.map V.bl) ∧ Q (.bl (f bs)) H) (m1 (mAllL f)) := rmn1 fun U H a x Q Qd E gu hU j ra he h k => by
  match a, h with
  | .lst ds, h =>
    have h : (match blsOf ds with | some bs => Qd (.bl (f bs)) | none => False) := h
    cases q : blsOf ds with
    | none => rw [q] at h; exact h.elim
    | some bs =>
      rw [q] at h
      obtain ⟨p, xs, rfl, hp, r⟩ := rep_lst_inv ra
      rw [blsOf_eq q] at r
      exact ⟨p, bs, rfl, by rw [← reps_bls r]; exact SqL.of hp.1, k _ _ H h (Ext.refl H) j rep_bl⟩
theorem rmAll : RMn z (rAll z.K) (m1 mAll) := rmBls rfl
theorem rmAny : RMn z (rAny z.K) (m1 mAny) := rmBls rfl
/-- int(..), abs(..) of an int -/
abbrev mInt (d : D) : M D := fun Q _ => match d with | .int i => Q (.int i) | .bl b => Q (.int (if b then 1 else 0)) | _ => False
abbrev rIntD : List V → Hp → VK → Prop := fun xs H Q => (∃ i, xs = [.int i] ∧ Q (.int i) H) ∨ ∃ k, xs = [.bl k] ∧ Q (.int (if k then 1 else 0)) H
theorem crInt : CallR X (.type "int") rIntD := call_int1
theorem rmInt : RMn z rIntD (m1 mInt) := rmn1 fun U H a x Q Qd E gu hU j ra he h k => by
  match a, h with
  | .int i, h => exact .inl ⟨i, by rw [inv_int ra], k _ _ H h (Ext.refl H) j rep_int⟩
  | .bl i, h => exact .inr ⟨i, by rw [inv_bl ra], k _ _ H h (Ext.refl H) j rep_int⟩
abbrev mAbs (d : D) : M D := fun Q _ => match d with | .int i => Q (.int (if i < 0 then -i else i)) | _ => False
abbrev rAbs : List V → Hp → VK → Prop := fun xs H Q => ∃ i, xs = [.int i] ∧ Q (.int (if i < 0 then -i else i)) H
theorem crAbs : CallR X (.builtin "abs") rAbs := call_abs
theorem rmAbs : RMn z rAbs (m1 mAbs) := rmn1 fun U H a x Q Qd E gu hU j ra he h k => by
  match a, h with
  | .int i, h => exact ⟨i, by rw [inv_int ra], k _ _ H h (Ext.refl H) j rep_int⟩
abbrev mGcd (a b : D) : M D := fun Q _ => match a, b with | .int i, .int j => Q (.int ((Nat.gcd i.natAbs j.natAbs : Nat) : Int)) | _, _ => False
theorem rmGcd : RMn z rGcd (m2 mGcd) := rmn2 fun U H a b x y Q Qd E gu hU j ra rb he h k => by
  match a, b, h with
  | .int i, .int l, h => exact ⟨i, l, by rw [inv_int ra, inv_int rb], k _ _ H h (Ext.refl H) j rep_int⟩
end
end DL

/-! DStmt: statements over data; the lists that a def owns. -/
namespace DL
open PySem PySem.Spec PyProof.Rows L2

/-- what may change: the caller's, and the def's own lists (the slots O, at oa) -/
def Uo (z : Zc) (O : List Nat) (oa : Nat → Addr) (ρ : DEnv) : Addr → Prop := fun a => z.U0 a ∨ ∃ i : Nat, i ∈ O ∧ (∃ d, ρ[i]? = some (some d)) ∧ oa i = a
def Zc.keep (z : Zc) (kp : List (D × V)) : Zc := { z with kept := kp ++ z.kept }
/-- an own object: a list, a dict -/
def OwnO (K : PySem.W.Frag) (U : Addr → Prop) (H : Hp) (d : D) (u : HO) : Prop :=
  (∃ ds xs, d = .lst ds ∧ u = .lst xs ∧ Reps K U H ds xs) ∨ ∃ ks ds kvs, d = .dK ks ds ∧ u = .dK kvs ∧ kvs.map (·.1) = ks ∧ Reps K U H ds (kvs.map (·.2))
theorem OwnO.mono' {K : PySem.W.Frag} {U U' : Addr → Prop} {H H' : Hp} {d : D} {u : HO} (e : ∀ a o, H a = some o → ¬ U a → H' a = some o ∧ ¬ U' a) (h : OwnO K U H d u) : OwnO K U' H' d u := by
  rcases h with ⟨ds, xs, e0, e1, r⟩ | ⟨ks, ds, kvs, e0, e1, e2, r⟩
  · exact .inl ⟨ds, xs, e0, e1, Reps.mono' e ds xs r⟩
  · exact .inr ⟨ks, ds, kvs, e0, e1, e2, Reps.mono' e ds _ r⟩
theorem OwnO.less {K : PySem.W.Frag} {U U' : Addr → Prop} {H : Hp} {d : D} {u : HO} (h : OwnO K U H d u) (g : ∀ a, U' a → U a) : OwnO K U' H d u := h.mono' fun _ _ e n => ⟨e, fun z => n (g _ z)⟩
theorem OwnO.ext {K : PySem.W.Frag} {G U : Addr → Prop} {H H' : Hp} {d : D} {u : HO} (h : OwnO K U H d u) (e : Ext G H H') (g : ∀ a, G a → U a) : OwnO K U H' d u := h.mono' fun a o h n => ⟨e a o h fun z => n (g a z), n⟩
theorem OwnO.rep {K : PySem.W.Frag} {U U' : Addr → Prop} {H : Hp} {d : D} {u : HO} {a : Addr} (h : OwnO K U H d u) (ha : H a = some u) (na : ¬ U' a) (g : ∀ a, U' a → U a) : Rep K U' H d (.ref a) := by
  rcases h.less g with ⟨ds, xs, rfl, rfl, r⟩ | ⟨ks, ds, kvs, rfl, rfl, e2, r⟩
  · simp only [Rep]; exact ⟨a, xs, rfl, ⟨ha, na⟩, r⟩
  · simp only [Rep]; exact ⟨a, kvs, rfl, ⟨ha, na, e2⟩, r⟩
theorem OwnO.nx {K : PySem.W.Frag} {U : Addr → Prop} {H : Hp} {d : D} {u : HO} (h : OwnO K U H d u) : (∀ φ, u ≠ .ext φ) ∧ (∀ xs, u ≠ .tup xs) ∧ ∀ o xs, u ≠ .frz o (.tup xs) := by
  rcases h with ⟨ds, xs, rfl, rfl, r⟩ | ⟨ks, ds, kvs, rfl, rfl, e2, r⟩ <;> refine ⟨fun _ q => ?_, fun _ q => ?_, fun _ _ q => ?_⟩ <;> cases q
structure SO (z : Zc) (O : List Nat) (oa : Nat → Addr) (σ : L2.St) (H : Hp) (ρ : DEnv) : Prop where
  ok : z.Ok
  ext : Ext z.g.G z.H0 H
  j : z.g.J H
  d0 : ∀ a, z.U0 a → H a ≠ none
  len : ρ.length = σ.length
  env : ∀ (i : Nat) (d : D), i ∉ O → ρ[i]? = some (some d) → ∃ v, σ[i]? = some (some v) ∧ Rep z.K (Uo z O oa ρ) H d v
  own : ∀ (i : Nat) (d : D), i ∈ O → ρ[i]? = some (some d) → z.H0 (oa i) = none ∧ ¬ z.U0 (oa i) ∧ ∃ u, OwnO z.K (Uo z O oa ρ) H d u ∧ σ[i]? = some (some (.ref (oa i))) ∧ H (oa i) = some u
  inj : ∀ (i k : Nat), i ∈ O → k ∈ O → (∃ d, ρ[i]? = some (some d)) → (∃ d, ρ[k]? = some (some d)) → oa i = oa k → i = k
  kp : ∀ p, p ∈ z.kept → Rep z.K (Uo z O oa ρ) H p.1 p.2
/-- the environment without the own lists -/
def hide (O : List Nat) (ρ : DEnv) : DEnv := O.foldr (fun i r => r.set i none) ρ
theorem hide_length : ∀ (O : List Nat) (ρ : DEnv), (hide O ρ).length = ρ.length
  | [], ρ => rfl
  | o :: O, ρ => by
    show ((hide O ρ).set o none).length = _
    rw [List.length_set, hide_length O ρ]
theorem hide_some : ∀ {O : List Nat} {ρ : DEnv} {i : Nat} {d : D}, (hide O ρ)[i]? = some (some d) → i ∉ O ∧ ρ[i]? = some (some d)
  | [], ρ, i, d, h => ⟨by simp, h⟩
  | o :: O, ρ, i, d, h => by
    have h : ((hide O ρ).set o none)[i]? = some (some d) := h
    by_cases e : o = i
    · subst e
      by_cases hl : o < (hide O ρ).length
      · rw [List.getElem?_set_self hl] at h
        cases h
      · rw [List.getElem?_eq_none (by simpa using hl)] at h
        cases h
    · rw [List.getElem?_set_ne e] at h
      obtain ⟨h1, h2⟩ := hide_some h
      exact ⟨by simp only [List.mem_cons, not_or]; exact ⟨fun q => e q.symm, h1⟩, h2⟩
section
variable {z : Zc} {O : List Nat} {oa : Nat → Addr} {σ : L2.St} {H H' : Hp} {ρ : DEnv}
theorem SO.gu (s : SO z O oa σ H ρ) : ∀ a, z.g.G a → Uo z O oa ρ a := fun a h => .inl (s.ok.gu a h)
theorem SO.dom (s : SO z O oa σ H ρ) : ∀ a, Uo z O oa ρ a → H a ≠ none := fun a h => by
  rcases h with h | ⟨i, hi, ⟨d, hd⟩, rfl⟩
  · exact s.d0 a h
  · obtain ⟨_, _, u, _, _, e⟩ := s.own i d hi hd
    rw [e]
    simp
/-- all own lists read as lists -/
theorem SO.full (s : SO z O oa σ H ρ) : WR z z.U0 σ H ρ := ⟨s.ok, fun _ h => h, s.d0, s.ext, s.j, s.len, fun (i : Nat) (d : D) h => by
  by_cases hi : i ∈ O
  · obtain ⟨_, nu, u, r, e1, e2⟩ := s.own i d hi h
    exact ⟨_, e1, r.rep e2 nu fun a h => .inl h⟩
  · obtain ⟨v, e1, r⟩ := s.env i d hi h
    exact ⟨v, e1, r.less fun a h => .inl h⟩⟩
/-- the own lists not looked at -/
theorem SO.vis (s : SO z O oa σ H ρ) : WR z (Uo z O oa ρ) σ H (hide O ρ) := ⟨s.ok, fun _ h => .inl h, s.dom, s.ext, s.j, by rw [hide_length]; exact s.len, fun (i : Nat) (d : D) h => by
  obtain ⟨hi, h⟩ := hide_some h
  exact s.env i d hi h⟩
theorem SO.step (s : SO z O oa σ H ρ) (e : Ext z.g.G H H') (j : z.g.J H') : SO z O oa σ H' ρ := by
  have gu := s.gu
  refine ⟨s.ok, s.ext.trans e, j, fun a h => ?_, s.len, fun i d hi h => ?_, fun i d hi h => ?_, s.inj, fun p hp => (s.kp p hp).ext e gu⟩
  · by_cases hg : z.g.G a
    · exact z.g.dom H' a j hg
    · cases q : H a with
      | none => exact absurd q (s.d0 a h)
      | some o => rw [e a o q hg]; simp
  · obtain ⟨v, h1, h2⟩ := s.env i d hi h
    exact ⟨v, h1, h2.ext e gu⟩
  · obtain ⟨h0, nu, u, r, e1, e2⟩ := s.own i d hi h
    exact ⟨h0, nu, u, r.ext e gu, e1, e _ _ e2 fun q => nu (s.ok.gu _ q)⟩
theorem Uo_set {i : Nat} {d : D} (hi : i ∉ O) : Uo z O oa (ρ.set i (some d)) = Uo z O oa ρ := by
  funext a
  apply propext
  unfold Uo
  constructor
  · rintro (h | ⟨k, hk, ⟨d', h⟩, e⟩)
    · exact .inl h
    · have hne : i ≠ k := fun q => hi (q ▸ hk)
      rw [List.getElem?_set_ne hne] at h
      exact .inr ⟨k, hk, ⟨d', h⟩, e⟩
  · rintro (h | ⟨k, hk, ⟨d', h⟩, e⟩)
    · exact .inl h
    · have hne : i ≠ k := fun q => hi (q ▸ hk)
      exact .inr ⟨k, hk, ⟨d', by rw [List.getElem?_set_ne hne]; exact h⟩, e⟩
theorem set_some {α : Type} {l : List (Option α)} {i k : Nat} {d d' : α} (h : (l.set i (some d))[k]? = some (some d')) : (k = i ∧ i < l.length ∧ d = d') ∨ (k ≠ i ∧ l[k]? = some (some d')) := by
  by_cases e : i = k
  · subst e
    by_cases hl : i < l.length
    · rw [List.getElem?_set_self hl] at h
      exact .inl ⟨rfl, hl, by simpa using h⟩
    · rw [List.getElem?_eq_none (by simpa using hl)] at h
      cases h
  · rw [List.getElem?_set_ne e] at h
    exact .inr ⟨fun q => e q.symm, h⟩
theorem SO.set (s : SO z O oa σ H ρ) {i : Nat} {d : D} {v : V} (hi : i ∉ O) (r : Rep z.K (Uo z O oa ρ) H d v) : SO z O oa (σ.set i (some v)) H (ρ.set i (some d)) := by
  refine ⟨s.ok, s.ext, s.j, s.d0, by simpa using s.len, fun k d' hk h => ?_, fun k d' hk h => ?_, fun k l hk hl ⟨d1, h1⟩ ⟨d2, h2⟩ e => ?_, fun p hp => by rw [Uo_set hi]; exact s.kp p hp⟩
  · rw [Uo_set hi]
    rcases set_some h with ⟨e, hl, e2⟩ | ⟨ne, h⟩
    · subst e; subst e2
      exact ⟨v, by rw [List.getElem?_set_self (by rw [← s.len]; exact hl)], r⟩
    · obtain ⟨v', e1, r'⟩ := s.env k d' hk h
      exact ⟨v', by rw [List.getElem?_set_ne (Ne.symm ne)]; exact e1, r'⟩
  · rw [Uo_set hi]
    rcases set_some h with ⟨e, _, _⟩ | ⟨ne, h⟩
    · exact absurd (e ▸ hk) hi
    · obtain ⟨h0, nu, u, r', e1, e2⟩ := s.own k d' hk h
      exact ⟨h0, nu, u, r', by rw [List.getElem?_set_ne (Ne.symm ne)]; exact e1, e2⟩
  · refine s.inj k l hk hl ?_ ?_ e
    · rcases set_some h1 with ⟨e, _, _⟩ | ⟨_, h⟩
      · exact absurd (e ▸ hk) hi
      · exact ⟨_, h⟩
    · rcases set_some h2 with ⟨e, _, _⟩ | ⟨_, h⟩
      · exact absurd (e ▸ hl) hi
      · exact ⟨_, h⟩
/-- a new list becomes the def's own -/
theorem SO.setOwn (s : SO z O oa σ H ρ) {i : Nat} {a : Addr} {dd : D} {uu : HO} (hi : i ∈ O) (e : Ext z.g.G H H') (j : z.g.J H') (ha : H a = none) (ha' : H' a = some uu) (r : OwnO z.K (fun b => Uo z O oa ρ b ∨ b = a) H' dd uu) :
    SO z O (fun k => if k = i then a else oa k) (σ.set i (some (.ref a))) H' (ρ.set i (some dd)) := by
  have s' := s.step e j
  have g0 : ¬ z.g.G a := fun q => z.g.dom H a s.j q ha
  have hsub : ∀ b, Uo z O (fun k => if k = i then a else oa k) (ρ.set i (some dd)) b → (Uo z O oa ρ b ∨ b = a) := fun b h => by
    rcases h with h | ⟨k, hk, ⟨d', h⟩, e⟩
    · exact .inl (.inl h)
    · by_cases hki : k = i
      · subst hki
        simp only [↓reduceIte] at e
        exact .inr e.symm
      · simp only [if_neg hki] at e
        rcases set_some h with ⟨q, _, _⟩ | ⟨_, h⟩
        · exact absurd q hki
        · exact .inl (.inr ⟨k, hk, ⟨d', h⟩, e⟩)
  have rl : ∀ {d : D} {v : V}, Rep z.K (Uo z O oa ρ) H d v → Rep z.K (Uo z O (fun k => if k = i then a else oa k) (ρ.set i (some dd))) H' d v := fun {d v} h => by
    refine Rep.mono' (fun b o hb n => ⟨e b o hb fun q => n (s.gu b q), fun q => ?_⟩) d v h
    rcases hsub b q with q | q
    · exact n q
    · subst q; rw [ha] at hb; cases hb
  have rls : ∀ {d : D} {v : HO}, OwnO z.K (Uo z O oa ρ) H d v → OwnO z.K (Uo z O (fun k => if k = i then a else oa k) (ρ.set i (some dd))) H' d v := fun {d v} h => by
    refine h.mono' (fun b o hb n => ⟨e b o hb fun q => n (s.gu b q), fun q => ?_⟩)
    rcases hsub b q with q | q
    · exact n q
    · subst q; rw [ha] at hb; cases hb
  refine ⟨s.ok, s'.ext, j, s'.d0, by simpa using s.len, fun k d' hk h => ?_, fun k d' hk h => ?_, fun k l hk hl ⟨d1, h1⟩ ⟨d2, h2⟩ eq => ?_, fun p hp => rl (s.kp p hp)⟩
  · rcases set_some h with ⟨q, _, _⟩ | ⟨ne, h⟩
    · exact absurd hi (q ▸ hk)
    · obtain ⟨v', e1, r'⟩ := s.env k d' hk h
      exact ⟨v', by rw [List.getElem?_set_ne (Ne.symm ne)]; exact e1, rl r'⟩
  · rcases set_some h with ⟨q, hl, q2⟩ | ⟨ne, h⟩
    · subst q; subst q2
      simp only [↓reduceIte]
      refine ⟨?_, fun q => s.d0 a q ha, uu, r.less hsub, by rw [List.getElem?_set_self (by rw [← s.len]; exact hl)], ha'⟩
      cases q : z.H0 a with
      | none => rfl
      | some o => rw [s.ext a o q g0] at ha; cases ha
    · simp only [if_neg ne]
      obtain ⟨h0, nu, u', r', e1, e2⟩ := s.own k d' hk h
      exact ⟨h0, nu, u', rls r', by rw [List.getElem?_set_ne (Ne.symm ne)]; exact e1, e _ _ e2 fun q => nu (s.ok.gu _ q)⟩
  · have at_ : ∀ {k : Nat} {d' : D}, k ∈ O → k ≠ i → (ρ.set i (some dd))[k]? = some (some d') → oa k ≠ a := fun {k d'} hk ne h q => by
      rcases set_some h with ⟨q, _, _⟩ | ⟨_, h⟩
      · exact ne q
      · obtain ⟨_, _, _, _, _, e2⟩ := s.own k d' hk h
        rw [q, ha] at e2
        cases e2
    by_cases hki : k = i
    · by_cases hli : l = i
      · rw [hki, hli]
      · simp only [if_pos hki, if_neg hli] at eq
        exact absurd eq.symm (at_ hl hli h2)
    · by_cases hli : l = i
      · simp only [if_neg hki, if_pos hli] at eq
        exact absurd eq (at_ hk hki h1)
      · simp only [if_neg hki, if_neg hli] at eq
        refine s.inj k l hk hl ?_ ?_ eq
        · rcases set_some h1 with ⟨q, _, _⟩ | ⟨_, h⟩
          · exact absurd q hki
          · exact ⟨_, h⟩
        · rcases set_some h2 with ⟨q, _, _⟩ | ⟨_, h⟩
          · exact absurd q hli
          · exact ⟨_, h⟩
/-- an own list is changed -/
theorem SO.putO (s : SO z O oa σ H ρ) {i : Nat} {d0 dd : D} {uu : HO} (hi : i ∈ O) (h : ρ[i]? = some (some d0)) (r : OwnO z.K (Uo z O oa ρ) H dd uu) : SO z O oa σ (upd H (oa i) uu) (ρ.set i (some dd)) := by
  obtain ⟨h0, nu, u0, r0, e1, e2⟩ := s.own i d0 hi h
  have hlt : i < ρ.length := (List.getElem?_eq_some_iff.mp h).1
  have hU : Uo z O oa (ρ.set i (some dd)) = Uo z O oa ρ := by
    funext a
    apply propext
    unfold Uo
    constructor
    · rintro (h | ⟨k, hk, ⟨d', h'⟩, e⟩)
      · exact .inl h
      · rcases set_some h' with ⟨q, _, _⟩ | ⟨_, h'⟩
        · subst q; exact .inr ⟨k, hk, ⟨_, h⟩, e⟩
        · exact .inr ⟨k, hk, ⟨d', h'⟩, e⟩
    · rintro (h | ⟨k, hk, ⟨d', h'⟩, e⟩)
      · exact .inl h
      · by_cases q : k = i
        · subst q; exact .inr ⟨k, hk, ⟨dd, by rw [List.getElem?_set_self hlt]⟩, e⟩
        · exact .inr ⟨k, hk, ⟨d', by rw [List.getElem?_set_ne (Ne.symm q)]; exact h'⟩, e⟩
  have inU : Uo z O oa ρ (oa i) := .inr ⟨i, hi, ⟨_, h⟩, rfl⟩
  have rl : ∀ (d : D) (v : V), Rep z.K (Uo z O oa ρ) H d v → Rep z.K (Uo z O oa ρ) (upd H (oa i) uu) d v := Rep.mono' fun b o hb n => ⟨by rw [upd_ne (show b ≠ oa i from fun q => n (by rw [q]; exact inU))]; exact hb, n⟩
  have rls : ∀ (d : D) (v : HO), OwnO z.K (Uo z O oa ρ) H d v → OwnO z.K (Uo z O oa ρ) (upd H (oa i) uu) d v := fun d v h => h.mono' fun b o hb n => ⟨by rw [upd_ne (show b ≠ oa i from fun q => n (by rw [q]; exact inU))]; exact hb, n⟩
  refine ⟨s.ok, fun a o ha g => ?_, z.g.st H _ s.j (fun a ha => upd_ne fun q => nu (q ▸ s.ok.gu a ha)) (fun a φ e => by rw [upd_ne (fun q => by rw [q, e2] at e; exact r0.nx.1 φ (Option.some.inj e))]; exact e), fun a ha => ?_, by simpa using s.len, fun k d' hk h' => ?_, fun k d' hk h' => ?_, fun k l hk hl ⟨d1, h1⟩ ⟨d2, h2⟩ eq => ?_, fun p hp => by rw [hU]; exact rl _ _ (s.kp p hp)⟩
  · rw [upd_ne (ne_of_none ha h0)]
    exact s.ext a o ha g
  · by_cases q : a = oa i
    · rw [q, upd_same]; simp
    · rw [upd_ne q]; exact s.d0 a ha
  · rw [hU]
    rcases set_some h' with ⟨q, _, _⟩ | ⟨ne, h'⟩
    · exact absurd hi (q ▸ hk)
    · obtain ⟨v', f1, r'⟩ := s.env k d' hk h'
      exact ⟨v', f1, rl _ _ r'⟩
  · rw [hU]
    rcases set_some h' with ⟨q, _, q2⟩ | ⟨ne, h'⟩
    · subst q; subst q2
      exact ⟨h0, nu, uu, rls _ _ r, e1, upd_same⟩
    · obtain ⟨k0, ku, u', r', f1, f2⟩ := s.own k d' hk h'
      refine ⟨k0, ku, u', rls _ _ r', f1, ?_⟩
      rw [upd_ne fun q => ne (s.inj k i hk hi ⟨_, h'⟩ ⟨_, h⟩ q)]
      exact f2
  · refine s.inj k l hk hl ?_ ?_ eq
    · rcases set_some h1 with ⟨q, _, _⟩ | ⟨_, h'⟩
      · subst q; exact ⟨_, h⟩
      · exact ⟨_, h'⟩
    · rcases set_some h2 with ⟨q, _, _⟩ | ⟨_, h'⟩
      · subst q; exact ⟨_, h⟩
      · exact ⟨_, h'⟩
theorem SO.put (s : SO z O oa σ H ρ) {i : Nat} {d0 : D} {ds : List D} {xs : List V} (hi : i ∈ O) (h : ρ[i]? = some (some d0)) (r : Reps z.K (Uo z O oa ρ) H ds xs) : SO z O oa σ (upd H (oa i) (.lst xs)) (ρ.set i (some (.lst ds))) := s.putO hi h (.inl ⟨ds, xs, rfl, rfl, r⟩)
/-- an own list -/
theorem SO.ownL (s : SO z O oa σ H ρ) {i : Nat} {ds : List D} (hi : i ∈ O) (h : ρ[i]? = some (some (.lst ds))) : ¬ z.U0 (oa i) ∧ ∃ xs, σ[i]? = some (some (.ref (oa i))) ∧ H (oa i) = some (.lst xs) ∧ Reps z.K (Uo z O oa ρ) H ds xs := by
  obtain ⟨_, nu, u, r, e1, e2⟩ := s.own i _ hi h
  rcases r with ⟨ds', xs, e, rfl, r⟩ | ⟨_, _, _, e, _⟩
  · cases e
    exact ⟨nu, xs, e1, e2, r⟩
  · cases e
/-- an own dict -/
theorem SO.ownK (s : SO z O oa σ H ρ) {i : Nat} {ks : List Key} {ds : List D} (hi : i ∈ O) (h : ρ[i]? = some (some (.dK ks ds))) : ¬ z.U0 (oa i) ∧ ∃ kvs, σ[i]? = some (some (.ref (oa i))) ∧ H (oa i) = some (.dK kvs) ∧ kvs.map (·.1) = ks ∧ Reps z.K (Uo z O oa ρ) H ds (kvs.map (·.2)) := by
  obtain ⟨_, nu, u, r, e1, e2⟩ := s.own i _ hi h
  rcases r with ⟨_, _, e, _⟩ | ⟨ks', ds', kvs, e, rfl, ek, r⟩
  · cases e
  · cases e
    exact ⟨nu, kvs, e1, e2, ek, r⟩
/-- an own list is the def's own no longer -/
theorem SO.freeze (s : SO z O oa σ H ρ) {O' : List Nat} (h : ∀ i, i ∈ O' → i ∈ O) : SO z O' oa σ H ρ := by
  have hU : ∀ a, Uo z O' oa ρ a → Uo z O oa ρ a := fun a q => by
    rcases q with q | ⟨k, hk, q, e⟩
    · exact .inl q
    · exact .inr ⟨k, h k hk, q, e⟩
  refine ⟨s.ok, s.ext, s.j, s.d0, s.len, fun i d hi hd => ?_, fun i d hi hd => ?_, fun i k hi hk => s.inj i k (h i hi) (h k hk), fun p hp => (s.kp p hp).less hU⟩
  · by_cases hO : i ∈ O
    · obtain ⟨h0, nu, u, r, e1, e2⟩ := s.own i d hO hd
      refine ⟨_, e1, r.rep e2 ?_ hU⟩
      rintro (q | ⟨k, hk, q, e⟩)
      · exact nu q
      · exact hi (s.inj k i (h k hk) hO q ⟨_, hd⟩ e ▸ hk)
    · obtain ⟨v, e1, r⟩ := s.env i d hO hd
      exact ⟨v, e1, r.less hU⟩
  · obtain ⟨h0, nu, u, r, e1, e2⟩ := s.own i d (h i hi) hd
    exact ⟨h0, nu, u, r.less hU, e1, e2⟩
end

/-! ### statements -/
structure DK where
  nx : DEnv → Prop
  rt : D → Prop
  bk : DEnv → Prop
  ct : DEnv → Prop
abbrev MS := DK → (DX → Prop) → DEnv → Prop
structure KOk (z : Zc) (O : List Nat) (κ : DK) (Dn : Ends) : Prop where
  nx : ∀ oa σ H ρ, SO z O oa σ H ρ → κ.nx ρ → Dn.nx σ H
  rt : ∀ d v H, κ.rt d → Ext z.g.G z.H0 H → z.g.J H → Rep z.K z.U0 H d v → Dn.rt v H
  bk : ∀ oa σ H ρ, SO z O oa σ H ρ → κ.bk ρ → Dn.bk σ H
  ct : ∀ oa σ H ρ, SO z O oa σ H ρ → κ.ct ρ → Dn.ct σ H
theorem TMe.keep {z : Zc} {te : TE} {m : DEnv → M D} (h : TMe z te m) (kp : List (D × V)) : TMe (z.keep kp) te m := fun U σ H ρ Q Qd E w he hm k => h U σ H ρ Q Qd E ⟨⟨w.ok.gu, w.ok.ek⟩, w.u, w.dom, w.ext, w.j, w.env⟩ he hm k
theorem TMt.keep {z : Zc} {te : TT} {m : DEnv → M Bool} (h : TMt z te m) (kp : List (D × V)) : TMt (z.keep kp) te m := fun U σ H ρ Q Qd E w he hm k => h U σ H ρ Q Qd E ⟨⟨w.ok.gu, w.ok.ek⟩, w.u, w.dom, w.ext, w.j, w.env⟩ he hm k
theorem TMa.keep {z : Zc} {te : TA} {m : DEnv → M (List D)} (h : TMa z te m) (kp : List (D × V)) : TMa (z.keep kp) te m := fun U σ H ρ Q Qd E w he hm k => h U σ H ρ Q Qd E ⟨⟨w.ok.gu, w.ok.ek⟩, w.u, w.dom, w.ext, w.j, w.env⟩ he hm k
def TMs (z : Zc) (O : List Nat) (ts : TS) (ms : MS) : Prop := ∀ (kp : List (D × V)) (oa : Nat → Addr) (σ : L2.St) (H : Hp) (ρ : DEnv) (Dn : Ends) (κ : DK) (E : DX → Prop), SO (z.keep kp) O oa σ H ρ → (∀ x, E x → z.Ed x) → KOk (z.keep kp) O κ Dn → ms κ E ρ → ts Dn σ H
/-- .. where nothing is walked -/
def TMs0 (z : Zc) (O : List Nat) (ts : TS) (ms : MS) : Prop := ∀ (oa : Nat → Addr) (σ : L2.St) (H : Hp) (ρ : DEnv) (Dn : Ends) (κ : DK) (E : DX → Prop), SO z O oa σ H ρ → (∀ x, E x → z.Ed x) → KOk z O κ Dn → ms κ E ρ → ts Dn σ H
theorem tms_of {z : Zc} {O : List Nat} {ts : TS} {ms : MS} (h : ∀ kp, TMs0 (z.keep kp) O ts ms) : TMs z O ts ms := fun kp => h kp
structure DS (X : Cx) (z : Zc) (O : List Nat) (st : Stmt) (ts : TS) (ms : MS) : Prop where
  ps : PS X st ts
  tm : TMs z O ts ms
structure DSs (X : Cx) (z : Zc) (O : List Nat) (st : List Stmt) (ts : TS) (ms : MS) : Prop where
  ps : PSs X st ts
  tm : TMs z O ts ms
section
variable {X : Cx} {z : Zc} {O : List Nat} {st : Stmt} {rest : List Stmt} {t u : TS} {m n : MS} {e : Expr} {te : TE} {me : DEnv → M D} {pos : Pos}
abbrev mNext : MS := fun κ _ ρ => κ.nx ρ
abbrev mSeq (m n : MS) : MS := fun κ E ρ => m { κ with nx := n κ E } E ρ
theorem tms_seq (h1 : TMs z O t m) (h2 : TMs z O u n) : TMs z O (tSeq t u) (mSeq m n) := fun kp oa σ H ρ Dn κ E s he ko hm =>
  h1 kp oa σ H ρ { Dn with nx := u Dn } { κ with nx := n κ E } E s he ⟨fun oa' σ' H' ρ' s' q => h2 kp oa' σ' H' ρ' Dn κ E s' he ko q, ko.rt, ko.bk, ko.ct⟩ hm
theorem dss_nil : DSs X z O [] tNext mNext := ⟨pss_nil, fun kp oa σ H ρ Dn κ E s he ko hm => ko.nx oa σ H ρ s hm⟩
theorem dss_cons (h1 : DS X z O st t m) (h2 : DSs X z O rest u n) : DSs X z O (st :: rest) (tSeq t u) (mSeq m n) := ⟨pss_cons h1.ps h2.ps, tms_seq h1.tm h2.tm⟩
theorem dss_one (h1 : DS X z O st t m) : DSs X z O [st] t m := ⟨pss_one h1.ps, h1.tm⟩
/-- from here on (to the return) fewer lists are the def's own -/
theorem dss_freeze (O' : List Nat) (h : DSs X z O' rest t m) (hO : ∀ i, i ∈ O' → i ∈ O := by decide) :
    DSs X z O rest t (fun κ E ρ => m { nx := fun _ => False, rt := κ.rt, bk := fun _ => False, ct := fun _ => False } E ρ) := ⟨h.ps, fun kp oa σ H ρ Dn κ E s he ko hm =>
  h.tm kp oa σ H ρ Dn { nx := fun _ => False, rt := κ.rt, bk := fun _ => False, ct := fun _ => False } E (s.freeze hO) he ⟨fun _ _ _ _ _ q => q.elim, ko.rt, fun _ _ _ _ _ q => q.elim, fun _ _ _ _ _ q => q.elim⟩ hm⟩
theorem ds_pass : DS X z O (.Pass pos) tNext mNext := ⟨ps_pass, fun kp oa σ H ρ Dn κ E s he ko hm => ko.nx oa σ H ρ s hm⟩
theorem ds_break : DS X z O (.Break pos) tBreak (fun κ _ ρ => κ.bk ρ) := ⟨ps_break, fun kp oa σ H ρ Dn κ E s he ko hm => ko.bk oa σ H ρ s hm⟩
theorem ds_continue : DS X z O (.Continue pos) tCont (fun κ _ ρ => κ.ct ρ) := ⟨ps_continue, fun kp oa σ H ρ Dn κ E s he ko hm => ko.ct oa σ H ρ s hm⟩
/-- an expression whose value is dropped -/
theorem ds_expr (he : DE X z e te me) (hs : swapsWith e none pos.line X.env = pure false := by rfl) : DS X z O (.Expr e pos) (tDrop te) (fun κ E ρ => me ρ (fun _ => κ.nx ρ) E) := ⟨ps_expr he.pe hs, fun kp oa σ H ρ Dn κ E s hE ko hm =>
  (he.tm.keep kp) z.U0 σ H ρ _ _ E s.full hE hm fun d v H' q e1 j1 _ => ko.nx oa σ H' ρ (s.step e1 j1) q⟩
theorem ds_ret (he : DE X z e te me) : DS X z O (.Return (some e) pos) (tRet te) (fun κ E ρ => me ρ κ.rt E) := ⟨ps_ret he.pe, fun kp oa σ H ρ Dn κ E s hE ko hm =>
  (he.tm.keep kp) z.U0 σ H ρ _ _ E s.full hE hm fun d v H' q e1 j1 r1 => ko.rt d v H' q (s.ext.trans e1) j1 r1⟩
theorem ds_retN : DS X z O (.Return none pos) tRetN (fun κ _ _ => κ.rt .non) := ⟨ps_retN, fun kp oa σ H ρ Dn κ E s hE ko hm => ko.rt .non .non H hm s.ext s.j (by simp only [Rep])⟩
theorem ds_if {c : Expr} {a b : List Stmt} {tc : TT} {mc : DEnv → M Bool} (hc : DT X z c tc mc) (ha : DSs X z O a t m) (hb : DSs X z O b u n) : DS X z O (.If c a b pos) (tIfS tc t u) (fun κ E ρ => mc ρ (fun q => if q = true then m κ E ρ else n κ E ρ) E) := ⟨ps_if hc.pe ha.ps hb.ps, fun kp oa σ H ρ Dn κ E s hE ko hm =>
  (hc.tm.keep kp) z.U0 σ H ρ _ _ E s.full hE hm fun q H' hq e1 j1 => by
    cases q with
    | true => exact ha.tm kp oa σ H' ρ Dn κ E (s.step e1 j1) hE ko hq
    | false => exact hb.tm kp oa σ H' ρ Dn κ E (s.step e1 j1) hE ko hq⟩
/-- code that is never come to -/
theorem ds_never : DS X z O st tNever (fun _ _ _ => False) := ⟨ps_never, fun _ _ _ _ _ _ _ _ _ _ _ hm => hm.elim⟩
theorem dss_never {sts : List Stmt} : DSs X z O sts tNever (fun _ _ _ => False) := ⟨pss_never, fun _ _ _ _ _ _ _ _ _ _ _ hm => hm.elim⟩

/-! ### targets -/
def TMg (z : Zc) (O : List Nat) (g : TG) (mg : D → (DEnv → Prop) → DEnv → Prop) : Prop := ∀ (kp : List (D × V)) (oa : Nat → Addr) (σ : L2.St) (H : Hp) (ρ : DEnv) (d : D) (v : V) (k : DEnv → Prop) (Q : L2.St → Hp → Prop), SO (z.keep kp) O oa σ H ρ → Rep z.K (Uo (z.keep kp) O oa ρ) H d v → mg d k ρ → (∀ oa' σ' H' ρ', SO (z.keep kp) O oa' σ' H' ρ' → k ρ' → Q σ' H') → g v σ H Q
def TMgs (z : Zc) (O : List Nat) (g : TGs) (mg : List D → (DEnv → Prop) → DEnv → Prop) : Prop := ∀ (kp : List (D × V)) (oa : Nat → Addr) (σ : L2.St) (H : Hp) (ρ : DEnv) (ds : List D) (vs : List V) (k : DEnv → Prop) (Q : L2.St → Hp → Prop), SO (z.keep kp) O oa σ H ρ → Reps z.K (Uo (z.keep kp) O oa ρ) H ds vs → mg ds k ρ → (∀ oa' σ' H' ρ', SO (z.keep kp) O oa' σ' H' ρ' → k ρ' → Q σ' H') → g vs σ H Q
structure DG (X : Cx) (z : Zc) (O : List Nat) (tg : Expr) (g : TG) (mg : D → (DEnv → Prop) → DEnv → Prop) : Prop where
  pg : PG X tg g
  tm : TMg z O g mg
/-- several targets: names alone -/
structure DGs (X : Cx) (z : Zc) (O : List Nat) (ts : List Expr) (g : TGs) (mg : List D → (DEnv → Prop) → DEnv → Prop) : Prop where
  pg : PGs X ts g
  tm : TMgs z O g mg
abbrev mgName (i : Nat) : D → (DEnv → Prop) → DEnv → Prop := fun d k ρ => k (ρ.set i (some d))
theorem dg_name (i : Nat) {x : Str} (hN : X.N.Nodup) (hi : X.N[i]? = some x := by rfl) (hx : Loc X.env.scope x := by first | exact .inl rfl | exact .inr rfl) (ho : i ∉ O := by decide) (hf : X.fn x = true ∨ X.env.scope.names.lookup x = some .local := by first | exact .inl rfl | exact .inr rfl) : DG X z O (.Name x pos) (gName i) (mgName i) := ⟨pg_name hN hi hx hf, fun kp oa σ H ρ d v k Q s r hm kq => kq oa _ H _ (s.set ho r) hm⟩
abbrev mgNil : List D → (DEnv → Prop) → DEnv → Prop := fun ds k ρ => match ds with | [] => k ρ | _ => False
abbrev mgCons (i : Nat) (m : List D → (DEnv → Prop) → DEnv → Prop) : List D → (DEnv → Prop) → DEnv → Prop := fun ds k ρ => match ds with | d :: r => m r k (ρ.set i (some d)) | [] => False
theorem dgs_nil : DGs X z O [] gNil mgNil := ⟨pgs_nil, fun kp oa σ H ρ ds vs k Q s r hm kq => by
  cases ds with
  | nil => simp only [Reps] at r; exact ⟨r, kq oa σ H ρ s hm⟩
  | cons d ds => exact hm.elim⟩
theorem dgs_cons (i : Nat) {x : Str} {es : List Expr} {u : TGs} {m : List D → (DEnv → Prop) → DEnv → Prop} (hN : X.N.Nodup) (h2 : DGs X z O es u m) (hi : X.N[i]? = some x := by rfl) (hx : Loc X.env.scope x := by first | exact .inl rfl | exact .inr rfl) (ho : i ∉ O := by decide) (hf : X.fn x = true ∨ X.env.scope.names.lookup x = some .local := by first | exact .inl rfl | exact .inr rfl)
    (hs : (assignEach (.Name x pos :: es) X.env).map (·.2) = assign (.Name x pos) X.env :: (assignEach es X.env).map (·.2) := by rfl) : DGs X z O (.Name x pos :: es) (gCons (gName i) u) (mgCons i m) := ⟨pgs_cons (pg_name hN hi hx hf) h2.pg hs, fun kp oa σ H ρ ds vs k Q s r hm kq => by
  cases ds with
  | nil => exact hm.elim
  | cons d ds =>
    simp only [Reps] at r
    obtain ⟨v, vr, rfl, r1, r2⟩ := r
    refine ⟨v, vr, rfl, h2.tm kp oa _ H _ ds vr k Q (s.set ho r1) ?_ hm kq⟩
    rw [Uo_set ho]
    exact r2⟩
abbrev mgTup (n : Nat) (m : List D → (DEnv → Prop) → DEnv → Prop) : D → (DEnv → Prop) → DEnv → Prop := fun d k ρ => match d with | .tup ds => ds.length = n ∧ m ds k ρ | _ => False
theorem dg_tup {es : List Expr} {k : Nat} {t : TGs} {n : Nat} {m : List D → (DEnv → Prop) → DEnv → Prop} (hc : X.calm = true) (hK : X.K = z.K) (h : DGs X z O es t m) (hn : (assignEach es X.env).length = n := by rfl) (hst : (assignEach es X.env).findIdx? (·.1) = none := by rfl) :
    DG X z O (.Tuple es k pos) (gTup z.K n t) (mgTup n m) := ⟨by rw [← hK]; exact pg_tup hc h.pg hn hst, fun kp oa σ H ρ d v k Q s r hm kq => by
  cases d with
  | tup ds =>
    simp only [Rep] at r
    obtain ⟨a, xs, rfl, ha, r⟩ := r
    exact ⟨a, xs, rfl, ha.sq, by rw [r.length]; exact hm.1, h.tm kp oa σ H ρ ds xs k Q s r hm.2 kq⟩
  | _ => exact hm.elim⟩
/-- x = e, e not of the own lists -/
theorem ds_set {i : Nat} {x : Str} {pos' : Pos} (hN : X.N.Nodup) (he : DE X z e te me) (hi : X.N[i]? = some x := by rfl) (hx : Loc X.env.scope x := by first | exact .inl rfl | exact .inr rfl) (ho : i ∉ O := by decide) (hs : swapsWith e (some (.Name x pos')) pos.line X.env = pure false := by rfl) (hf : X.fn x = true ∨ X.env.scope.names.lookup x = some .local := by first | exact .inl rfl | exact .inr rfl) :
    DS X z O (.Assign [.Name x pos'] e pos) (tAsg te (gName i)) (fun κ E ρ => me (hide O ρ) (fun d => κ.nx (ρ.set i (some d))) E) := ⟨ps_set hN hi hx he.pe hs hf, fun kp oa σ H ρ Dn κ E s hE ko hm =>
  (he.tm.keep kp) _ σ H _ _ _ E s.vis hE hm fun d v H' q e1 j1 r1 => ko.nx oa _ H' _ ((s.step e1 j1).set ho r1) q⟩
/-- data without lists, dicts, instances -/
def flat : D → Bool
  | .lst _ => false
  | .ins _ _ _ => false
  | .dK _ _ => false
  | .dT _ _ => false
  | .tup ds => flats ds
  | _ => true
where flats : List D → Bool
  | [] => true
  | d :: ds => flat d && flats ds
mutual
theorem Rep.flat' {K : PySem.W.Frag} {U U' : Addr → Prop} {H : Hp} (hU : ∀ a xs, U' a → (H a = some (.tup xs) ∨ ∃ o, H a = some (.frz o (.tup xs))) → U a) : ∀ (d : D) (v : V), flat d = true → Rep K U H d v → Rep K U' H d v
  | .non, v, _, h => by simpa only [Rep] using h
  | .bl b, v, _, h => by simpa only [Rep] using h
  | .int i, v, _, h => by simpa only [Rep] using h
  | .str x, v, _, h => by simpa only [Rep] using h
  | .ty n, v, _, h => by simpa only [Rep] using h
  | .obj a, v, _, h => by simpa only [Rep] using h
  | .tup ds, v, f, h => by
    simp only [Rep] at h ⊢
    simp only [flat] at f
    obtain ⟨a, xs, h1, h2, h3⟩ := h
    refine ⟨a, xs, h1, ?_, Reps.flat' hU ds xs f h3⟩
    rcases h2 with ⟨h2, n⟩ | h2
    · exact .inl ⟨h2, fun q => n (hU a xs q h2)⟩
    · exact .inr h2
  | .lst ds, v, f, h => by simp [flat] at f
  | .ins C ks ds, v, f, h => by simp [flat] at f
  | .dK ks ds, v, f, h => by simp [flat] at f
  | .dT ks ds, v, f, h => by simp [flat] at f
theorem Reps.flat' {K : PySem.W.Frag} {U U' : Addr → Prop} {H : Hp} (hU : ∀ a xs, U' a → (H a = some (.tup xs) ∨ ∃ o, H a = some (.frz o (.tup xs))) → U a) : ∀ (ds : List D) (vs : List V), flat.flats ds = true → Reps K U H ds vs → Reps K U' H ds vs
  | [], vs, _, h => by simpa only [Reps] using h
  | d :: ds, vs, f, h => by
    simp only [Reps] at h ⊢
    simp only [flat.flats, Bool.and_eq_true] at f
    obtain ⟨x, r, h1, h2, h3⟩ := h
    exact ⟨x, r, h1, Rep.flat' hU d x f.1 h2, Reps.flat' hU ds r f.2 h3⟩
end
theorem SO.flat {oa : Nat → Addr} {σ : L2.St} {H : Hp} {ρ : DEnv} (s : SO z O oa σ H ρ) {d : D} {v : V} (f : DL.flat d = true) (r : Rep z.K z.U0 H d v) : Rep z.K (Uo z O oa ρ) H d v :=
  Rep.flat' (fun a xs q h => by
    rcases q with q | ⟨i, hi, ⟨d', hd⟩, rfl⟩
    · exact q
    · obtain ⟨_, _, u, w, _, e⟩ := s.own i d' hi hd
      rcases h with h | ⟨o, h⟩ <;> rw [e] at h
      · exact absurd (Option.some.inj h) (w.nx.2.1 xs)
      · exact absurd (Option.some.inj h) (w.nx.2.2 o xs)) d v f r
/-- x = e, e of the own lists too; what comes has no list -/
theorem ds_setF {i : Nat} {x : Str} {pos' : Pos} (hN : X.N.Nodup) (he : DE X z e te me) (hi : X.N[i]? = some x := by rfl) (hx : Loc X.env.scope x := by first | exact .inl rfl | exact .inr rfl) (ho : i ∉ O := by decide) (hs : swapsWith e (some (.Name x pos')) pos.line X.env = pure false := by rfl) (hf : X.fn x = true ∨ X.env.scope.names.lookup x = some .local := by first | exact .inl rfl | exact .inr rfl) :
    DS X z O (.Assign [.Name x pos'] e pos) (tAsg te (gName i)) (fun κ E ρ => me ρ (fun d => flat d = true ∧ κ.nx (ρ.set i (some d))) E) := ⟨ps_set hN hi hx he.pe hs hf, fun kp oa σ H ρ Dn κ E s hE ko hm =>
  (he.tm.keep kp) _ σ H _ _ _ E s.full hE hm fun d v H' q e1 j1 r1 => ko.nx oa _ H' _ ((s.step e1 j1).set ho ((s.step e1 j1).flat q.1 r1)) q.2⟩
/-- target = e, e not of the own lists -/
theorem ds_asg {tg : Expr} {g : TG} {mg : D → (DEnv → Prop) → DEnv → Prop} (he : DE X z e te me) (hg : DG X z O tg g mg) (hs : swapsWithSole [tg] e pos.line X.env = pure false := by rfl) (hw : swappedStores [tg] e X.env = pure none := by rfl)
    (h1 : (assignEach [tg] X.env).map (·.2) = [assign tg X.env] := by rfl) : DS X z O (.Assign [tg] e pos) (tAsg te g) (fun κ E ρ => me (hide O ρ) (fun d => mg d κ.nx ρ) E) := ⟨ps_asg he.pe hg.pg hs hw h1, fun kp oa σ H ρ Dn κ E s hE ko hm =>
  (he.tm.keep kp) _ σ H _ _ _ E s.vis hE hm fun d v H' q e1 j1 r1 => hg.tm kp oa σ H' ρ d v _ _ (s.step e1 j1) r1 q fun oa' σ' H'' ρ' s' k => ko.nx oa' σ' H'' ρ' s' k⟩
end
end DL

/-! DIter: enumerate and zip over lists and tuples in any mix; what a loop walks, over data. -/
namespace DL
open PySem PySem.Spec PyProof.Rows L2

/-- the kind of what is walked -/
inductive Sk where
  | l | t
def Sk.Sq (k : Sk) (K : PySem.W.Frag) (H : Hp) (a : Addr) (xs : List V) : Prop := match k with
  | .l => SqL K H a xs
  | .t => SqT K H a xs
def Sk.Is (k : Sk) (h : Heap) (a : Addr) (items : Array Value) : Prop := match k with
  | .l => h.IsList a items
  | .t => h.IsTuple a items
def Sk.It (k : Sk) (h : Heap) (it a : Addr) (i : Nat) : Prop := match k with
  | .l => h.IsListIter it a i
  | .t => h.IsTupleIter it a i
def Sk.o (k : Sk) (a : Addr) : Obj := match k with
  | .l => { cls := .type "list_iterator", data := .fields #[.ref a, .int 0 0] }
  | .t => { cls := .type "tuple_iterator", data := .fields #[.ref a, .int 0 0] }
theorem Sk.begins (k : Sk) (a : Addr) (items : Array Value) : Begins (.ref a) (k.o a) (fun h => k.Is h a items) := match k with
  | .l => begins_list a items
  | .t => begins_tuple a items
theorem Sk.draws (k : Sk) {prog : Program} {w : World} {A : Around} (hh : A.handled = none) (it a : Addr) (hne : a ≠ it) (items : Array Value) :
    Draws prog w A it [it, a] items.size (fun i v => items[i]? = some v) (fun i h => k.It h it a i ∧ k.Is h a items) := match k with
  | .l => Draws.list hh it a hne items
  | .t => Draws.tuple hh it a hne items
theorem Sk.first {k : Sk} {h : Heap} {it a : Addr} (e : h.get? it = some (k.o a)) : k.It h it a 0 := match k, e with
  | .l, e => ⟨_, e, rfl, rfl⟩
  | .t, e => ⟨_, e, rfl, rfl⟩
theorem Sk.itObj {k : Sk} {h : Heap} {it a : Addr} {i : Nat} (e : k.It h it a i) : ∃ o, h.get? it = some o ∧ ∀ v, o.data ≠ .cell v := match k, e with
  | .l, ⟨o, h1, _, d⟩ => ⟨o, h1, fun v q => by rw [d] at q; cases q⟩
  | .t, ⟨o, h1, _, d⟩ => ⟨o, h1, fun v q => by rw [d] at q; cases q⟩
theorem Sk.itKeep {k : Sk} {h h' : Heap} {it a : Addr} {i : Nat} (e : k.It h it a i) (kp : ∀ o, h.get? it = some o → h'.get? it = some o) : k.It h' it a i := match k, e with
  | .l, e => Heap.IsListIter.at e fun o q => kp o q
  | .t, e => Heap.IsTupleIter.at e fun o q => kp o q
section
variable {X : Cx} {pins : List (Addr × Obj)} {σ : L2.St} {H : Hp} {s : Shared} {a : Addr} {xs ys : List V}
theorem Sk.inv {k : Sk} (I : Inv X pins σ H s) (h : k.Sq X.K H a xs) : ∃ its : List Value, Vals xs its ∧ k.Is s.heap a its.toArray ∧ a < s.heap.objs.size := match k, h with
  | .l, h => let ⟨its, r, p, _⟩ := I.list h; ⟨its, r, p.isList, p.lt⟩
  | .t, h => let ⟨its, r, p, _⟩ := I.tuple h; ⟨its, r, p, let ⟨_, ho, _⟩ := p; Heap.lt_size ho⟩
theorem Sk.inj {k : Sk} (I : Inv X pins σ H s) (h : k.Sq X.K H a xs) (h' : k.Sq X.K H a ys) : xs = ys := match k, h, h' with
  | .l, h, h' => I.list_inj h h'
  | .t, h, h' => I.tuple_inj h h'
end

/-! ### enumerate -/
set_option maxHeartbeats 1000000 in
theorem meets_enumerate_new1 {v : Value} {o : Obj} {H : Heap → Prop} (B : Begins v o H) :
    Meets (Builtin.«enumerate.__new__» ⟨[.type "enumerate", v], []⟩) (fun _ R s => H s.heap ∧
      R (.ok (.ret (.ref (s.heap.push o).objs.size))) { s with heap := (s.heap.push o).push { cls := .type "enumerate", data := .fields #[.none, .bool false, .ref s.heap.objs.size, rawInt 0, .none, .none] } }) :=
  .of_wp fun prog w A R s h => by
    obtain ⟨hp, g, d, tk, os⟩ := s; obtain ⟨h1, h⟩ := h
    have hsub := sub_enumerate
    have q1 : ∀ {A' : Around} {E : Value → Shared → Prop} {Q : Value → Shared → Prop}, Q (.ref hp.objs.size) ⟨hp.push o, g, d, tk, os⟩ → wpAny (model prog w) A' (pyIter v) Q E ⟨hp, g, d, tk, os⟩ :=
      fun q => B.iter prog w _ _ ⟨hp, g, d, tk, os⟩ _ h1 q
    wp_walk using q1
    refine wpAny_stack_any fun st => wpAny_pure ?_
    split
    · rename_i c _ _ _ _ _
      cases (c == Value.type "enumerate")
      · wp_walk using q1
        exact ⟨_, rfl, h⟩
      · wp_walk using q1
        exact ⟨_, rfl, h⟩
    · wp_walk using q1
      exact ⟨_, rfl, h⟩
section
variable {prog : Program} {w : World} {A : Around} {E : Value → Shared → Prop} {s : Shared}
theorem enum_begins1 {v : Value} {o : Obj} {H : Heap → Prop} {Q : Value → Shared → Prop} (B : Begins v o H) (h1 : H s.heap)
    (h : ∀ h', IsEnum h' (s.heap.objs.size + 1) s.heap.objs.size 0 .none → h'.get? s.heap.objs.size = some o → h'.objs.size = s.heap.objs.size + 2 →
      (∀ b o, s.heap.get? b = some o → h'.get? b = some o) → Q (.ref (s.heap.objs.size + 1)) { s with heap := h' }) :
    wpAny (model prog w) A (call (.type "enumerate") [v]) Q E s := by
  refine callType_new F.called_enumerate (by decide) (F.typeCall_enumerate_1 _) (F.newCall_enumerate_1 _) (fun obj => F.args_object_init_2 obj _) F.entry_enumerate_new
    (meets_enumerate_new1 B) ⟨h1, ?_⟩
  have hz : (s.heap.push o).objs.size = s.heap.objs.size + 1 := Heap.size_push ..
  show _ ∧ _
  rw [hz]
  have he : IsEnum ((s.heap.push o).push { cls := .type "enumerate", data := .fields #[.none, .bool false, .ref s.heap.objs.size, rawInt 0, .none, .none] }) (s.heap.objs.size + 1) s.heap.objs.size 0 .none := by
    have := Heap.get?_push_size (s.heap.push o) (o := { cls := .type "enumerate", data := .fields #[.none, .bool false, .ref s.heap.objs.size, rawInt 0, .none, .none] }) rfl
    rw [hz] at this; exact this
  refine ⟨⟨_, he, rfl⟩, h _ he (Heap.get?_push_of_some _ (Heap.get?_push_size _ B.free)) (by rw [Heap.size_push, hz]) fun b o x => Heap.get?_push_of_some _ (Heap.get?_push_of_some _ x)⟩
end
/-- the items with their numbers from c, in new pairs -/
def ItE (K : PySem.W.Frag) (k : Sk) (a : Addr) (c : Int) : It :=
  ⟨fun i H => ∃ (xs : List V) (x : V), k.Sq K H a xs ∧ xs[i]? = some x, fun i H v H' => ∃ T x, v = .ref T ∧ H T = none ∧ H' = upd H T (.tup [.int (c + (i : Nat)), x]) ∧ ∀ xs, k.Sq K H a xs → xs[i]? = some x, fun i H => ∃ xs : List V, k.Sq K H a xs ∧ xs.length = i⟩
theorem turn_enumE {P : Program} {w : World} {K : PySem.W.Frag} {elts : List Expr} {kk : Nat} {tpos : Pos} {k : Sk} {c : Int} {a e it : Addr} (h1 : e ≠ it) (h2 : a ≠ e) (h3 : a ≠ it) :
    Turn P w K (.Tuple elts kk tpos) (ItE K k a c) [e, it] e (fun i h => (∃ old, IsEnum h e it (c + ((i : Nat) : Int)) old) ∧ k.It h it a i) where
  mem := by simp
  obj := fun i h st b hb => by
    obtain ⟨⟨old, he⟩, hi⟩ := st
    have e' : b = e ∨ b = it := by simpa using hb
    rcases e' with z | z
    · rw [z]; exact ⟨_, he, fun v q => nomatch q⟩
    · rw [z]; exact Sk.itObj hi
  keep := fun i h h' st kp => let ⟨⟨old, he⟩, hi⟩ := st; ⟨⟨old, kp e (by simp) _ he⟩, Sk.itKeep hi (fun o q => kp it (by simp) o q)⟩
  item := by
    intro X hP hw hK hc i pins s σ H E I hf st hg
    subst hP hw hK
    obtain ⟨he, hit⟩ := st
    obtain ⟨xs, x, hq, hx⟩ := hg
    obtain ⟨its, rv, hs, ha⟩ := Sk.inv I hq
    have hi : i < its.toArray.size := by
      rw [List.size_toArray, ← rv.length]
      exact (List.getElem?_eq_some_iff.mp hx).1
    have D := k.draws (prog := X.prog) (w := X.w) (A := X.A.in1) (I.ok.hd hc) it a h3 its.toArray
    have W := GoesN.enumFrom (elts := elts) (x1 := kk) (pos := tpos) c D e h1 (by simp [h1, Ne.symm h2]) (by simp)
    refine W.goes i s _ E hi ⟨he, hit, hs⟩ fun v h' tk hY st' hk _ => ?_
    obtain ⟨T, t, y, rfl, hT, hy, hTT⟩ := hY
    obtain ⟨u, hu, ru⟩ := rv.get hx
    have eu : y = u := by
      have : its[i]? = some y := by simpa using hy
      rw [hu] at this
      exact (Option.some.inj this).symm
    subst eu
    have hH : H T = none := I.hok.fresh hT
    have new : ObjOk X.prog X.w (upd H T (.tup [.int (c + (i : Nat)), x])) h' T (.tup [.int (c + (i : Nat)), x]) :=
      ⟨by show 2 ≤ sizeLine; decide, [.int (c + (i : Nat)) t, y], .cons ⟨_, rfl⟩ (.cons ru .nil), hTT⟩
    have I1 : Inv X pins σ (upd H T (.tup [.int (c + (i : Nat)), x])) { s with heap := h', toks := tk } := I.turnedNew (ch := [e, it]) (fun b o hb q => hk b o hb q) hf hT new
    exact ⟨.ref T, _, I1, rfl, ⟨T, x, rfl, hH, rfl, fun ys hy => by rw [Sk.inj I hy hq]; exact hx⟩, ⟨st'.1, st'.2.1⟩, fun b hb => by
      rw [upd_ne (fun q => ?_)]
      · exact (hf b hb).1
      · obtain ⟨ob, ho, _⟩ : ∃ o, s.heap.get? b = some o ∧ ∀ v, o.data ≠ .cell v := by
          have e' : b = e ∨ b = it := by simpa using hb
          rcases e' with z | z
          · rw [z]; obtain ⟨old, he⟩ := he; exact ⟨_, he, fun v q => nomatch q⟩
          · rw [z]; exact Sk.itObj hit
        exact absurd (Nat.lt_of_lt_of_le (Heap.lt_size ho) (by rw [q]; exact hT)) (Nat.lt_irrefl _)⟩
  done := by
    intro X hP hw hK hc i pins s σ H E I hf st hg
    subst hP hw hK
    obtain ⟨he, hit⟩ := st
    obtain ⟨xs, hq, hx⟩ := hg
    obtain ⟨its, rv, hs, ha⟩ := Sk.inv I hq
    have hi : i = its.toArray.size := by
      rw [List.size_toArray, ← rv.length]
      exact hx.symm
    subst hi
    have D := k.draws (prog := X.prog) (w := X.w) (A := X.A.in1) (I.ok.hd hc) it a h3 its.toArray
    have W := GoesN.enumFrom (elts := elts) (x1 := kk) (pos := tpos) c D e h1 (by simp [h1, Ne.symm h2]) (by simp)
    exact W.stops s _ E ⟨he, hit, hs⟩ fun h' tk hk _ => I.turnedL (ch := [e, it]) (fun b o hb q => hk b o hb q) hf
  self := fun A i s Q E st h => let ⟨⟨_, he⟩, _⟩ := st; wpAny_pyIter_enum he h
def iEn (K : PySem.W.Frag) (ta : TA) : TI := fun σ H R => ta σ H fun vs H1 => ∃ (k : Sk) (a : Addr) (xs : List V), vs = [.ref a] ∧ k.Sq K H1 a xs ∧ R (ItE K k a 0) H1
theorem pi_en {X : Cx} {e : Expr} {ta : TA} {p pos tpos : Pos} {elts : List Expr} {kk : Nat} (hg : Gl X "enumerate") (hm : X.mg "enumerate" = none) (ha : PA X [e] ta) (hs : starEach [e] X.env = [(false, eval e X.env)] := by rfl) :
    PI X (.Tuple elts kk tpos) (.Call (.Name "enumerate" p) [e] [] pos) (iEn X.K ta) := by
  refine ⟨fun pins s σ H R I h => ?_⟩
  refine Call_ (ld_blt I hg hm boot_enumerate (PyProof.Rows.callWith_type1 (thn (ha.run pos pins s σ H _ I h) fun us s1 ⟨vs, H1, I1, r1, q1⟩ => ?_) hs rfl))
  obtain ⟨k, a, xs, ex, hq, q⟩ := q1
  subst ex
  cases r1 with
  | cons r rr =>
    cases rr
    cases r
    obtain ⟨its, rv, hI, hz⟩ := Sk.inv I1 hq
    refine enum_begins1 (k.begins a its.toArray) hI fun h' he hit hsz hk => wpAny_pyIter_enum he ?_
    have I2 : Inv X pins σ H1 { s1 with heap := h' } := I1.kept (t' := s1.toks) hk
    refine ⟨s1.heap.objs.size + 1, [s1.heap.objs.size + 1, s1.heap.objs.size], _, _, H1, rfl, I2, turn_enumE (k := k) (c := 0) (a := a) (Nat.succ_ne_self _) (Nat.ne_of_lt (Nat.lt_succ_of_lt hz)) (Nat.ne_of_lt hz), ⟨⟨.none, ?_⟩, Sk.first hit⟩, fun b hb => ?_, q⟩
    · simpa using he
    · have e' : b = s1.heap.objs.size + 1 ∨ b = s1.heap.objs.size := by simpa using hb
      have hle : s1.heap.objs.size ≤ b := by
        rcases e' with z | z
        · rw [z]; exact Nat.le_add_right _ _
        · rw [z]; exact Nat.le_refl _
      exact I1.fpOk hle (I1.hok.fresh hle)

/-! ### zip of two -/
def ItZ2 (K : PySem.W.Frag) (k k2 : Sk) (a b : Addr) : It :=
  ⟨fun i H => ∃ (xs ys : List V) (x y : V), k.Sq K H a xs ∧ k2.Sq K H b ys ∧ xs[i]? = some x ∧ ys[i]? = some y,
    fun i H v H' => ∃ T x y, v = .ref T ∧ H T = none ∧ H' = upd H T (.tup [x, y]) ∧ (∀ xs, k.Sq K H a xs → xs[i]? = some x) ∧ ∀ ys, k2.Sq K H b ys → ys[i]? = some y,
    fun i H => ∃ xs ys : List V, k.Sq K H a xs ∧ k2.Sq K H b ys ∧ min xs.length ys.length = i⟩
theorem turn_zip2 {P : Program} {w : World} {K : PySem.W.Frag} {elts : List Expr} {kk : Nat} {tpos : Pos} {k k2 : Sk} {a b z TI TO i1 i2 : Addr} (S : ZipSep2 z TI TO i1 i2 [i1, a] [i2, b]) (h1 : a ≠ i1) (h2 : b ≠ i2) :
    Turn P w K (.Tuple elts kk tpos) (ItZ2 K k k2 a b) [z, TI, TO, i1, i2] z (fun i h => IsZip h z TI TO .none ∧ IsTupOf2 h TI (.ref i1) (.ref i2) ∧ (∃ a1 a2, IsTupOf2 h TO a1 a2) ∧ k.It h i1 a i ∧ k2.It h i2 b i) where
  mem := by simp
  obj := fun i h st c hc => by
    obtain ⟨hz, hTI, ⟨x, y, hTO⟩, e1, e2⟩ := st
    have e' : c = z ∨ c = TI ∨ c = TO ∨ c = i1 ∨ c = i2 := by simpa using hc
    rcases e' with q | q | q | q | q
    · rw [q]; exact ⟨_, hz, fun v q => nomatch q⟩
    · rw [q]; exact ⟨_, hTI, fun v q => nomatch q⟩
    · rw [q]; exact ⟨_, hTO, fun v q => nomatch q⟩
    · rw [q]; exact Sk.itObj e1
    · rw [q]; exact Sk.itObj e2
  keep := fun i h h' st kp => by
    obtain ⟨hz, hTI, ⟨x, y, hTO⟩, e1, e2⟩ := st
    exact ⟨kp z (by simp) _ hz, kp TI (by simp) _ hTI, ⟨x, y, kp TO (by simp) _ hTO⟩, Sk.itKeep e1 (fun o q => kp i1 (by simp) o q), Sk.itKeep e2 (fun o q => kp i2 (by simp) o q)⟩
  item := by
    intro X hP hw hK hc i pins s σ H E I hf st hg
    subst hP hw hK
    obtain ⟨hz, hTI, hTO, e1, e2⟩ := id st
    obtain ⟨xs, ys, x, y, hqx, hqy, hx, hy⟩ := hg
    obtain ⟨its, rv, hs, ha⟩ := Sk.inv I hqx
    obtain ⟨its2, rv2, hs2, hb⟩ := Sk.inv I hqy
    have hi : i < its.toArray.size := by
      rw [List.size_toArray, ← rv.length]
      exact (List.getElem?_eq_some_iff.mp hx).1
    have hi2 : i < its2.toArray.size := by
      rw [List.size_toArray, ← rv2.length]
      exact (List.getElem?_eq_some_iff.mp hy).1
    have D1 := k.draws (prog := X.prog) (w := X.w) (A := X.A.in1) (I.ok.hd hc) i1 a h1 its.toArray
    have D2 := k2.draws (prog := X.prog) (w := X.w) (A := X.A.in1) (I.ok.hd hc) i2 b h2 its2.toArray
    have W := GoesN.zip2 (elts := elts) (x1 := kk) (pos := tpos) S D1 D2
    refine W.goes i s _ E (by omega) ⟨hz, hTI, hTO, ⟨e1, hs⟩, e2, hs2⟩ fun v h' tk hY st' hk _ => ?_
    obtain ⟨T, y1, y2, rfl, hT, hy1, hy2, hTT⟩ := hY
    obtain ⟨u, hu, ru⟩ := rv.get hx
    obtain ⟨u2, hu2, ru2⟩ := rv2.get hy
    have eu : y1 = u := by
      have : its[i]? = some y1 := by simpa using hy1
      rw [hu] at this
      exact (Option.some.inj this).symm
    have eu2 : y2 = u2 := by
      have : its2[i]? = some y2 := by simpa using hy2
      rw [hu2] at this
      exact (Option.some.inj this).symm
    subst eu eu2
    have hH : H T = none := I.hok.fresh hT
    have new : ObjOk X.prog X.w (upd H T (.tup [x, y])) h' T (.tup [x, y]) := ⟨by show 2 ≤ sizeLine; decide, [y1, y2], .cons ru (.cons ru2 .nil), hTT⟩
    have I1 : Inv X pins σ (upd H T (.tup [x, y])) { s with heap := h', toks := tk } := I.turnedNew (ch := [z, TI, TO, i1, i2]) (fun c o hcm q => hk c o (fun hm => hcm (by
      have : c = z ∨ c = TO ∨ c = i1 ∨ c = i2 := by simpa using hm
      rcases this with e | e | e | e <;> simp [e])) q) hf hT new
    refine ⟨.ref T, _, I1, rfl, ⟨T, x, y, rfl, hH, rfl, fun l hl => by rw [Sk.inj I hl hqx]; exact hx, fun l hl => by rw [Sk.inj I hl hqy]; exact hy⟩, ⟨st'.1, st'.2.1, st'.2.2.1, st'.2.2.2.1.1, st'.2.2.2.2.1⟩, fun c hcm => ?_⟩
    rw [upd_ne (fun q => ?_)]
    · exact (hf c hcm).1
    · obtain ⟨ob, ho, _⟩ : ∃ o, s.heap.get? c = some o ∧ ∀ v, o.data ≠ .cell v := by
        obtain ⟨a1, a2, hTO⟩ := hTO
        have e' : c = z ∨ c = TI ∨ c = TO ∨ c = i1 ∨ c = i2 := by simpa using hcm
        rcases e' with q | q | q | q | q
        · rw [q]; exact ⟨_, hz, fun v q => nomatch q⟩
        · rw [q]; exact ⟨_, hTI, fun v q => nomatch q⟩
        · rw [q]; exact ⟨_, hTO, fun v q => nomatch q⟩
        · rw [q]; exact Sk.itObj e1
        · rw [q]; exact Sk.itObj e2
      exact absurd (Nat.lt_of_lt_of_le (Heap.lt_size ho) (by rw [q]; exact hT)) (Nat.lt_irrefl _)
  done := by
    intro X hP hw hK hc i pins s σ H E I hf st hg
    subst hP hw hK
    obtain ⟨hz, hTI, hTO, e1, e2⟩ := id st
    obtain ⟨xs, ys, hqx, hqy, hx⟩ := hg
    obtain ⟨its, rv, hs, ha⟩ := Sk.inv I hqx
    obtain ⟨its2, rv2, hs2, hb⟩ := Sk.inv I hqy
    have hi : i = min its.toArray.size its2.toArray.size := by
      rw [List.size_toArray, List.size_toArray, ← rv.length, ← rv2.length]
      exact hx.symm
    subst hi
    have D1 := k.draws (prog := X.prog) (w := X.w) (A := X.A.in1) (I.ok.hd hc) i1 a h1 its.toArray
    have D2 := k2.draws (prog := X.prog) (w := X.w) (A := X.A.in1) (I.ok.hd hc) i2 b h2 its2.toArray
    have W := GoesN.zip2 (elts := elts) (x1 := kk) (pos := tpos) S D1 D2
    exact W.stops s _ E ⟨hz, hTI, hTO, ⟨e1, hs⟩, e2, hs2⟩ fun h' tk hk _ => I.turnedL (ch := [z, TI, TO, i1, i2]) (fun c o hcm q => hk c o (fun hm => hcm (by
      have : c = z ∨ c = TO ∨ c = i1 ∨ c = i2 := by simpa using hm
      rcases this with e | e | e | e <;> simp [e])) q) hf
  self := fun A i s Q E st h => wpAny_pyIter_zip st.1 h
def iZ2 (K : PySem.W.Frag) (ta : TA) : TI := fun σ H R => ta σ H fun vs H1 => ∃ (k k2 : Sk) (a b : Addr) (xs ys : List V), vs = [.ref a, .ref b] ∧ k.Sq K H1 a xs ∧ k2.Sq K H1 b ys ∧ R (ItZ2 K k k2 a b) H1
theorem pi_z2 {X : Cx} {e e2 : Expr} {ta : TA} {p pos tpos : Pos} {elts : List Expr} {kk : Nat} (hg : Gl X "zip") (hm : X.mg "zip" = none) (ha : PA X [e, e2] ta)
    (hs : starEach [e, e2] X.env = (false, eval e X.env) :: starEach [e2] X.env := by rfl) (hpl : (backTo pos (starEach [e2] X.env)).any (·.1) = false := by rfl) :
    PI X (.Tuple elts kk tpos) (.Call (.Name "zip" p) [e, e2] [] pos) (iZ2 X.K ta) := by
  refine ⟨fun pins s σ H R I h => ?_⟩
  refine Call_ (ld_blt I hg hm PyProof.Rows.boot_zip (PyProof.Rows.callWith_type1 (thn (ha.run pos pins s σ H _ I h) fun us s1 ⟨vs, H1, I1, r1, q1⟩ => ?_) hs hpl))
  obtain ⟨k, k2, a, b, xs, ys, ex, hqx, hqy, q⟩ := q1
  subst ex
  cases r1 with
  | cons r rr =>
    cases rr with
    | cons r' rr =>
      cases rr
      cases r
      cases r'
      obtain ⟨its, rv, hI, hz1⟩ := Sk.inv I1 hqx
      obtain ⟨its2, rv2, hI2, hz2⟩ := Sk.inv I1 hqy
      refine zip_begins2 (k.begins a its.toArray) (k2.begins b its2.toArray) hI hI2 fun h' hz hTI hTO g1 g2 hsz hk => wpAny_pyIter_zip hz ?_
      have I2 : Inv X pins σ H1 { s1 with heap := h' } := I1.kept (t' := s1.toks) hk
      refine ⟨s1.heap.objs.size + 4, [s1.heap.objs.size + 4, s1.heap.objs.size + 2, s1.heap.objs.size + 3, s1.heap.objs.size, s1.heap.objs.size + 1], _, _, H1, rfl, I2,
        turn_zip2 (k := k) (k2 := k2) (a := a) (b := b) (zip_sep2 (fp1 := [a]) (fp2 := [b]) (by simpa using hz1) (by simpa using hz2)) (Nat.ne_of_lt hz1) (Nat.ne_of_lt (Nat.lt_succ_of_lt hz2)), ⟨hz, hTI, ⟨_, _, hTO⟩, Sk.first g1, Sk.first g2⟩, fun c hcm => ?_, q⟩
      have e' : c = s1.heap.objs.size + 4 ∨ c = s1.heap.objs.size + 2 ∨ c = s1.heap.objs.size + 3 ∨ c = s1.heap.objs.size ∨ c = s1.heap.objs.size + 1 := by simpa using hcm
      have hle : s1.heap.objs.size ≤ c := by
        rcases e' with q | q | q | q | q
        · rw [q]; exact Nat.le_add_right _ _
        · rw [q]; exact Nat.le_add_right _ _
        · rw [q]; exact Nat.le_add_right _ _
        · rw [q]; exact Nat.le_refl _
        · rw [q]; exact Nat.le_add_right _ _
      exact I1.fpOk hle (I1.hok.fresh hle)
end DL

/-! DLoop: what is walked, for, comprehensions, over data. -/
namespace DL
open PySem PySem.Spec PyProof.Rows L2

/-! ### what is walked -/
/-- a list, a tuple or a text -/
def iAny (K : PySem.W.Frag) (tl : TE) : TI := fun σ H R => tl σ H fun x H1 => (∃ a, x = .ref a ∧ (∃ xs, SqL K H1 a xs) ∧ R (Itl K a) H1) ∨ (∃ a, x = .ref a ∧ (∃ xs, SqT K H1 a xs) ∧ R (Itt K a) H1) ∨ ∃ z, x = .str z ∧ R (Its z) H1
theorem pi_any {X : Cx} {tg l : Expr} {tl : TE} (hl : PE X l tl) : PI X tg l (iAny X.K tl) := by
  refine ⟨fun pins s σ H R I h => ?_⟩
  refine thn (hl.run pins s σ H _ I h) fun v s1 ⟨x, H1, I1, r1, q1⟩ => ?_
  rcases q1 with ⟨a, e, ⟨xs, hq⟩, q⟩ | ⟨a, e, ⟨xs, hq⟩, q⟩ | ⟨z, ex, q⟩
  · subst e
    cases r1
    obtain ⟨its, rv, p, hz⟩ := I1.list hq
    refine wpAny_pyIter_list p.isList ?_
    refine ⟨s1.heap.objs.size, [s1.heap.objs.size], _, _, H1, rfl, I1.kept (t' := s1.toks) fun b o e => Heap.get?_push_of_some _ e, turn_list a _, ⟨_, Heap.get?_push_size _ rfl, rfl, rfl⟩, fun b hb => ?_, q⟩
    have e : b = s1.heap.objs.size := by simpa using hb
    subst e
    exact I1.fpOk (Nat.le_refl _) (I1.hok.fresh (Nat.le_refl _))
  · subst e
    cases r1
    obtain ⟨its, rv, p, hz⟩ := I1.tuple hq
    refine wpAny_pyIter_tuple (show s1.heap.IsTuple a its.toArray from p) ?_
    refine ⟨s1.heap.objs.size, [s1.heap.objs.size], _, _, H1, rfl, I1.kept (t' := s1.toks) fun b o e => Heap.get?_push_of_some _ e, turn_tuple a _, ⟨_, Heap.get?_push_size _ rfl, rfl, rfl⟩, fun b hb => ?_, q⟩
    have e : b = s1.heap.objs.size := by simpa using hb
    subst e
    exact I1.fpOk (Nat.le_refl _) (I1.hok.fresh (Nat.le_refl _))
  · subst ex
    obtain ⟨t, rfl⟩ := r1
    cases ha : z.cps.all (· < 128)
    · exact wpAny_pyIter_wide ha (pi_one (tk := s1.toks) I1 _ (turn_str _ z t "str_iterator" (.inr rfl)) ⟨_, Heap.get?_push_size _ rfl, rfl, rfl⟩ q)
    · exact wpAny_pyIter_ascii ha (pi_one (tk := s1.toks) I1 _ (turn_str _ z t "str_ascii_iterator" (.inl rfl)) ⟨_, Heap.get?_push_size _ rfl, rfl, rfl⟩ q)

/-- the iterator gives the items as long as the sources stand -/
def Wk (K : PySem.W.Frag) (g : GG) (J : It) (srcs : List (D × V)) (items : List D) : Prop :=
  ∀ (U : Addr → Prop) (H : Hp), (∀ a, g.G a → U a) → (∀ a, U a → H a ≠ none) → g.J H → (∀ p, p ∈ srcs → Rep K U H p.1 p.2) →
    (∀ i, i < items.length → J.go i H ∧ ∀ x H', J.yld i H x H' → Ext g.G H H' ∧ g.J H' ∧ ∃ d, items[i]? = some d ∧ Rep K U H' d x) ∧ J.stop items.length H
def TMi (z : Zc) (wi : TI) (mi : DEnv → M (List D)) : Prop := ∀ (U : Addr → Prop) (σ : L2.St) (H : Hp) (ρ : DEnv) (R : It → Hp → Prop) (Qd : List D → Prop) (E : DX → Prop), WR z U σ H ρ → (∀ x, E x → z.Ed x) → mi ρ Qd E →
  (∀ items J H' srcs, Qd items → Ext z.g.G H H' → z.g.J H' → (∀ p, p ∈ srcs → Rep z.K U H' p.1 p.2) → Wk z.K z.g J srcs items → R J H') → wi σ H R
structure DI (X : Cx) (z : Zc) (tg iter : Expr) (wi : TI) (mi : DEnv → M (List D)) : Prop where
  pi : PI X tg iter wi
  tm : TMi z wi mi
section
variable {K : PySem.W.Frag} {g : GG}
theorem wk_list {a : Addr} {ds : List D} : Wk K g (Itl K a) [(.lst ds, .ref a)] ds := fun U H gu hU j hs => by
  obtain ⟨a', xs, e, hp, r⟩ := rep_lst_inv (hs _ (List.mem_singleton.mpr rfl))
  cases e
  refine ⟨fun i hi => ?_, xs, SqL.of hp.1, by rw [r.length]; exact Nat.le_refl _⟩
  obtain ⟨x, hx, rx⟩ := r.getD (List.getElem?_eq_getElem hi)
  refine ⟨⟨xs, x, SqL.of hp.1, hx⟩, fun y H' q => ?_⟩
  obtain ⟨rfl, q⟩ := q
  have e := q xs (SqL.of hp.1)
  rw [hx] at e
  cases e
  exact ⟨Ext.refl _, j, _, List.getElem?_eq_getElem hi, rx⟩
theorem wk_tup {a : Addr} {ds : List D} : Wk K g (Itt K a) [(.tup ds, .ref a)] ds := fun U H gu hU j hs => by
  obtain ⟨a', xs, e, hp, r⟩ := rep_tup_inv (hs _ (List.mem_singleton.mpr rfl))
  cases e
  refine ⟨fun i hi => ?_, xs, hp.sq, by rw [r.length]; exact Nat.le_refl _⟩
  obtain ⟨x, hx, rx⟩ := r.getD (List.getElem?_eq_getElem hi)
  refine ⟨⟨xs, x, hp.sq, hx⟩, fun y H' q => ?_⟩
  obtain ⟨rfl, q⟩ := q
  have e := q xs hp.sq
  rw [hx] at e
  cases e
  exact ⟨Ext.refl _, j, _, List.getElem?_eq_getElem hi, rx⟩
/-- the signs of a text -/
def signs (x : Str) : List D := x.cps.toList.map fun c => D.str ⟨#[c]⟩
theorem wk_str {x : Str} : Wk K g (Its x) [] (signs x) := fun U H gu hU j hs => by
  have hl : (signs x).length = x.cps.size := by simp [signs]
  refine ⟨fun i hi => ⟨by rw [hl] at hi; exact hi, fun y H' q => ?_⟩, by show x.cps.size ≤ _; rw [hl]; exact Nat.le_refl _⟩
  obtain ⟨rfl, c, hc, rfl⟩ := q
  refine ⟨Ext.refl _, j, .str ⟨#[c]⟩, ?_, rep_str⟩
  have hc' : x.cps.toList[i]? = some c := by simpa using hc
  simp [signs, hc']
/-- lo, lo + 1, .. -/
def rangeD (lo : Int) (n : Nat) : List D := (List.range n).map fun k => D.int (lo + (k : Nat))
theorem wk_range {lo : Int} {n : Nat} : Wk K g (Itr lo n) [] (rangeD lo n) := fun U H gu hU j hs => by
  have hl : (rangeD lo n).length = n := by simp [rangeD]
  refine ⟨fun i hi => ?_, by rw [hl]; exact Nat.le_refl _⟩
  have hi' : i < n := by rw [hl] at hi; exact hi
  refine ⟨hi', fun y H' q => ?_⟩
  obtain ⟨rfl, rfl⟩ := q
  exact ⟨Ext.refl _, j, .int (lo + (i : Nat)), by simp [rangeD, hi'], rep_int⟩
/-- the source at a -/
def srcOf (k : Sk) (ds : List D) : D := match k with
  | .l => .lst ds
  | .t => .tup ds
theorem src_inv {U : Addr → Prop} {H : Hp} {k : Sk} {ds : List D} {v : V} (h : Rep K U H (srcOf k ds) v) : ∃ a xs, v = .ref a ∧ k.Sq K H a xs ∧ Reps K U H ds xs := by
  cases k with
  | l =>
    obtain ⟨a, xs, e, hp, r⟩ := rep_lst_inv h
    exact ⟨a, xs, e, SqL.of hp.1, r⟩
  | t =>
    obtain ⟨a, xs, e, hp, r⟩ := rep_tup_inv h
    exact ⟨a, xs, e, hp.sq, r⟩
/-- (c, a), (c + 1, b), .. -/
def enumD (c : Int) : List D → List D
  | [] => []
  | d :: r => .tup [.int c, d] :: enumD (c + 1) r
theorem enumD_length : ∀ (c : Int) (ds : List D), (enumD c ds).length = ds.length
  | _, [] => rfl
  | c, d :: r => by simp [enumD, enumD_length (c + 1) r]
theorem enumD_get : ∀ (c : Int) (ds : List D) (i : Nat) (d : D), ds[i]? = some d → (enumD c ds)[i]? = some (.tup [.int (c + (i : Nat)), d])
  | _, [], i, d, h => by simp at h
  | c, e :: r, 0, d, h => by
    simp at h
    subst h
    simp [enumD]
  | c, e :: r, i + 1, d, h => by
    have ih := enumD_get (c + 1) r i d (by simpa using h)
    simp only [enumD, List.getElem?_cons_succ, ih]
    have : c + 1 + (i : Int) = c + ((i + 1 : Nat) : Int) := by omega
    rw [this]
theorem wk_enum {k : Sk} {a : Addr} {c : Int} {ds : List D} : Wk K g (ItE K k a c) [(srcOf k ds, .ref a)] (enumD c ds) := fun U H gu hU j hs => by
  obtain ⟨a', xs, e, hp, r⟩ := src_inv (hs _ (List.mem_singleton.mpr rfl))
  cases e
  refine ⟨fun i hi => ?_, xs, hp, by rw [r.length, enumD_length]⟩
  rw [enumD_length] at hi
  obtain ⟨x, hx, rx⟩ := r.getD (List.getElem?_eq_getElem hi)
  refine ⟨⟨xs, x, hp, hx⟩, fun y H' q => ?_⟩
  obtain ⟨T, w, rfl, hT, rfl, q⟩ := q
  have e := q xs hp
  rw [hx] at e
  cases e
  exact ⟨Ext.new hT, g.new j hT, _, enumD_get c ds i _ (List.getElem?_eq_getElem hi), rep_tup_new hU hT (Reps.cons rep_int (Reps.cons rx Reps.nil))⟩
/-- pairs -/
def zipD (ds es : List D) : List D := List.zipWith (fun d e => .tup [d, e]) ds es
theorem wk_zip {k k2 : Sk} {a b : Addr} {ds es : List D} : Wk K g (ItZ2 K k k2 a b) [(srcOf k ds, .ref a), (srcOf k2 es, .ref b)] (zipD ds es) := fun U H gu hU j hs => by
  obtain ⟨a', xs, e, hp, r⟩ := src_inv (hs (srcOf k ds, .ref a) (by simp))
  cases e
  obtain ⟨b', ys, e, hp2, r2⟩ := src_inv (hs (srcOf k2 es, .ref b) (by simp))
  cases e
  have hl : (zipD ds es).length = min ds.length es.length := by simp [zipD]
  refine ⟨fun i hi => ?_, xs, ys, hp, hp2, by rw [r.length, r2.length, hl]⟩
  rw [hl] at hi
  have hi1 : i < ds.length := by omega
  have hi2 : i < es.length := by omega
  obtain ⟨x, hx, rx⟩ := r.getD (List.getElem?_eq_getElem hi1)
  obtain ⟨y, hy, ry⟩ := r2.getD (List.getElem?_eq_getElem hi2)
  refine ⟨⟨xs, ys, x, y, hp, hp2, hx, hy⟩, fun v H' q => ?_⟩
  obtain ⟨T, x', y', rfl, hT, rfl, q, q2⟩ := q
  have e := q xs hp
  have e2 := q2 ys hp2
  rw [hx] at e
  rw [hy] at e2
  cases e
  cases e2
  exact ⟨Ext.new hT, g.new j hT, .tup [ds[i], es[i]], by simp [zipD, List.getElem?_zipWith, hi1, hi2], rep_tup_new hU hT (Reps.cons rx (Reps.cons ry Reps.nil))⟩
end
section
variable {X : Cx} {z : Zc} {tg a b : Expr} {ta tb : TE} {ma mb : DEnv → M D} {tr : TA} {mr : DEnv → M (List D)} {p pos tpos : Pos} {elts : List Expr} {kk : Nat}
abbrev asItems (d : D) : M (List D) := fun Q _ => match d with
  | .lst ds => Q ds
  | .tup ds => Q ds
  | .str x => Q (signs x)
  | _ => False
theorem di_any (hK : X.K = z.K) (ha : DE X z a ta ma) : DI X z tg a (iAny z.K ta) (fun ρ => bnd (ma ρ) asItems) := ⟨by rw [← hK]; exact pi_any ha.pe, fun U σ H ρ R Qd E w he h k => ha.tm U σ H ρ _ _ E w he h fun d v H1 h1 e1 j1 r1 => by
  match d, h1 with
  | .lst ds, h1 =>
    obtain ⟨p, xs, rfl, hp, r⟩ := rep_lst_inv r1
    exact .inl ⟨p, rfl, ⟨xs, SqL.of hp.1⟩, k ds _ H1 [(.lst ds, .ref p)] h1 e1 j1 (fun q hq => by rw [List.mem_singleton.mp hq]; exact r1) wk_list⟩
  | .tup ds, h1 =>
    obtain ⟨p, xs, rfl, hp, r⟩ := rep_tup_inv r1
    exact .inr (.inl ⟨p, rfl, ⟨xs, hp.sq⟩, k ds _ H1 [(.tup ds, .ref p)] h1 e1 j1 (fun q hq => by rw [List.mem_singleton.mp hq]; exact r1) wk_tup⟩)
  | .str x, h1 => exact .inr (.inr ⟨x, inv_str r1, k (signs x) _ H1 [] h1 e1 j1 (fun q hq => nomatch hq) wk_str⟩)⟩
abbrev asRange1 (ds : List D) : M (List D) := fun Q _ => match ds with
  | [.int j] => (-(2 ^ 62) ≤ j ∧ j < 2 ^ 62) ∧ Q (rangeD 0 j.toNat)
  | _ => False
abbrev asRange2 (ds : List D) : M (List D) := fun Q _ => match ds with
  | [.int i, .int j] => (-(2 ^ 62) ≤ i ∧ i < 2 ^ 62 ∧ -(2 ^ 62) ≤ j ∧ j < 2 ^ 62) ∧ Q (rangeD i (j - i).toNat)
  | _ => False
theorem di_range1 (hm : X.mg "range" = none) (ha : DA X z [a] tr mr) (hg : Gl X "range" := by rfl) (hs : starEach [a] X.env = [(false, eval a X.env)] := by rfl) : DI X z tg (.Call (.Name "range" p) [a] [] pos) (iRng1 tr) (fun ρ => bnd (mr ρ) asRange1) := ⟨pi_range1 hg hm ha.pe hs, fun U σ H ρ R Qd E w he h k => ha.tm U σ H ρ _ _ E w he h fun ds vs H1 h1 e1 j1 r1 => by
  match ds, h1 with
  | [.int j], h1 =>
    simp only [Reps] at r1
    obtain ⟨x, t, rfl, rx, rfl⟩ := r1
    exact ⟨j, by rw [inv_int rx], h1.1.1, h1.1.2, k _ _ H1 [] h1.2 e1 j1 (fun q hq => nomatch hq) wk_range⟩⟩
theorem di_range2 (hm : X.mg "range" = none) (ha : DA X z [a, b] tr mr) (hg : Gl X "range" := by rfl) (hs : starEach [a, b] X.env = [(false, eval a X.env), (false, eval b X.env)] := by rfl) (hs2 : starEach [b] X.env = [(false, eval b X.env)] := by rfl) : DI X z tg (.Call (.Name "range" p) [a, b] [] pos) (iRng2 tr) (fun ρ => bnd (mr ρ) asRange2) := ⟨pi_range2 hg hm ha.pe hs hs2, fun U σ H ρ R Qd E w he h k => ha.tm U σ H ρ _ _ E w he h fun ds vs H1 h1 e1 j1 r1 => by
  match ds, h1 with
  | [.int i, .int j], h1 =>
    simp only [Reps] at r1
    obtain ⟨x, t, rfl, rx, y, u, rfl, ry, rfl⟩ := r1
    exact ⟨i, j, by rw [inv_int rx, inv_int ry], h1.1, k _ _ H1 [] h1.2 e1 j1 (fun q hq => nomatch hq) wk_range⟩⟩
/-- what enumerate, zip take -/
def seqOf : D → Option (Sk × List D)
  | .lst ds => some (.l, ds)
  | .tup ds => some (.t, ds)
  | _ => none
theorem seqOf_eq {d : D} {k : Sk} {ds : List D} (h : seqOf d = some (k, ds)) : d = srcOf k ds := by
  cases d <;> simp [seqOf] at h
  all_goals
    obtain ⟨rfl, rfl⟩ := h
    rfl
abbrev asEnum (ds : List D) : M (List D) := fun Q _ => match ds with
  | [.lst ds] => Q (enumD 0 ds)
  | [.tup ds] => Q (enumD 0 ds)
  | _ => False
theorem di_enum (hK : X.K = z.K) (hm : X.mg "enumerate" = none) (ha : DA X z [a] tr mr) (hg : Gl X "enumerate" := by rfl) (hs : starEach [a] X.env = [(false, eval a X.env)] := by rfl) : DI X z (.Tuple elts kk tpos) (.Call (.Name "enumerate" p) [a] [] pos) (iEn z.K tr) (fun ρ => bnd (mr ρ) asEnum) := ⟨by rw [← hK]; exact pi_en hg hm ha.pe hs, fun U σ H ρ R Qd E w he h k => ha.tm U σ H ρ _ _ E w he h fun ds vs H1 h1 e1 j1 r1 => by
  have go : ∀ (sk : Sk) (es : List D), ds = [srcOf sk es] → Qd (enumD 0 es) → ∃ (k : Sk) (a : Addr) (xs : List V), vs = [.ref a] ∧ k.Sq z.K H1 a xs ∧ R (ItE z.K k a 0) H1 := fun sk es e q => by
    subst e
    simp only [Reps] at r1
    obtain ⟨x, t, rfl, rx, rfl⟩ := r1
    obtain ⟨p, xs, rfl, hp, r⟩ := src_inv rx
    exact ⟨sk, p, xs, rfl, hp, k _ _ H1 [(srcOf sk es, .ref p)] q e1 j1 (fun q hq => by rw [List.mem_singleton.mp hq]; exact rx) wk_enum⟩
  match ds, h1, go with
  | [.lst es], h1, go => exact go .l es rfl h1
  | [.tup es], h1, go => exact go .t es rfl h1⟩
abbrev asZip (ds : List D) : M (List D) := fun Q _ => match ds with
  | [.lst ds, .lst es] => Q (zipD ds es)
  | [.lst ds, .tup es] => Q (zipD ds es)
  | [.tup ds, .lst es] => Q (zipD ds es)
  | [.tup ds, .tup es] => Q (zipD ds es)
  | _ => False
theorem di_zip (hK : X.K = z.K) (hm : X.mg "zip" = none) (ha : DA X z [a, b] tr mr) (hg : Gl X "zip" := by rfl) (hs : starEach [a, b] X.env = (false, eval a X.env) :: starEach [b] X.env := by rfl) (hpl : (backTo pos (starEach [b] X.env)).any (·.1) = false := by rfl) :
    DI X z (.Tuple elts kk tpos) (.Call (.Name "zip" p) [a, b] [] pos) (iZ2 z.K tr) (fun ρ => bnd (mr ρ) asZip) := ⟨by rw [← hK]; exact pi_z2 hg hm ha.pe hs hpl, fun U σ H ρ R Qd E w he h k => ha.tm U σ H ρ _ _ E w he h fun ds vs H1 h1 e1 j1 r1 => by
  have go : ∀ (sk sk2 : Sk) (es fs : List D), ds = [srcOf sk es, srcOf sk2 fs] → Qd (zipD es fs) → ∃ (k k2 : Sk) (a b : Addr) (xs ys : List V), vs = [.ref a, .ref b] ∧ k.Sq z.K H1 a xs ∧ k2.Sq z.K H1 b ys ∧ R (ItZ2 z.K k k2 a b) H1 := fun sk sk2 es fs e q => by
    subst e
    simp only [Reps] at r1
    obtain ⟨x, t, rfl, rx, y, u, rfl, ry, rfl⟩ := r1
    obtain ⟨p, xs, rfl, hp, r⟩ := src_inv rx
    obtain ⟨p2, ys, rfl, hp2, r2⟩ := src_inv ry
    exact ⟨sk, sk2, p, p2, xs, ys, rfl, hp, hp2, k _ _ H1 [(srcOf sk es, .ref p), (srcOf sk2 fs, .ref p2)] q e1 j1 (fun q hq => by
      rcases List.mem_cons.mp hq with hq | hq
      · rw [hq]; exact rx
      · rw [List.mem_singleton.mp hq]; exact ry) wk_zip⟩
  match ds, h1, go with
  | [.lst es, .lst fs], h1, go => exact go .l .l es fs rfl h1
  | [.lst es, .tup fs], h1, go => exact go .l .t es fs rfl h1
  | [.tup es, .lst fs], h1, go => exact go .t .l es fs rfl h1
  | [.tup es, .tup fs], h1, go => exact go .t .t es fs rfl h1⟩
end

/-! ### for -/
theorem TMi.keep {z : Zc} {wi : TI} {mi : DEnv → M (List D)} (h : TMi z wi mi) (kp : List (D × V)) : TMi (z.keep kp) wi mi := fun U σ H ρ R Qd E w he hm k => h U σ H ρ R Qd E ⟨⟨w.ok.gu, w.ok.ek⟩, w.u, w.dom, w.ext, w.j, w.env⟩ he hm k
theorem SO.flatk {z : Zc} {O : List Nat} {oa : Nat → Addr} {σ : L2.St} {H : Hp} {ρ : DEnv} {a b : List (D × V)} : SO ((z.keep a).keep b) O oa σ H ρ ↔ SO (z.keep (b ++ a)) O oa σ H ρ := by
  have e : (z.keep a).keep b = z.keep (b ++ a) := by
    unfold Zc.keep
    simp [List.append_assoc]
  rw [e]
theorem SO.unkeep {z : Zc} {O : List Nat} {oa : Nat → Addr} {σ : L2.St} {H : Hp} {ρ : DEnv} {kp : List (D × V)} (s : SO (z.keep kp) O oa σ H ρ) : SO z O oa σ H ρ :=
  ⟨⟨s.ok.gu, s.ok.ek⟩, s.ext, s.j, s.d0, s.len, s.env, s.own, s.inj, fun p hp => s.kp p (List.mem_append_right _ hp)⟩
theorem SO.keep {z : Zc} {O : List Nat} {oa : Nat → Addr} {σ : L2.St} {H : Hp} {ρ : DEnv} {kp : List (D × V)} (s : SO z O oa σ H ρ) (h : ∀ p, p ∈ kp → Rep z.K (Uo z O oa ρ) H p.1 p.2) : SO (z.keep kp) O oa σ H ρ :=
  ⟨⟨s.ok.gu, s.ok.ek⟩, s.ext, s.j, s.d0, s.len, s.env, s.own, s.inj, fun p hp => (List.mem_append.mp hp).elim (h p) (s.kp p)⟩
/-- the turns of a loop over some items -/
def forW (mg : D → (DEnv → Prop) → DEnv → Prop) (mb : MS) (κ : DK) (E : DX → Prop) : List D → DEnv → Prop
  | [], ρ => κ.nx ρ
  | d :: r, ρ => mg d (mb { nx := forW mg mb κ E r, rt := κ.rt, bk := κ.nx, ct := forW mg mb κ E r } E) ρ
theorem ds_for {X : Cx} {z : Zc} {O : List Nat} {tg iter : Expr} {body : List Stmt} {wi : TI} {mi : DEnv → M (List D)} {g : TG} {mg : D → (DEnv → Prop) → DEnv → Prop} {tb : TS} {mb : MS} {pos : Pos} (hp : PassesOwn (model X.prog X.w) X.A X.env X.xe) (hc : X.calm = true)
    (hi : DI X z tg iter wi mi) (hg : DG X z O tg g mg) (hb : DSs X z O body tb mb) (hs : ∀ x, foldedSetIterable iter X.env x = pure x) :
    DS X z O (.For tg iter body [] pos) (tFor wi g tb) (fun κ E ρ => mi (hide O ρ) (fun items => forW mg mb κ E items ρ) E) := ⟨ps_for hp hc hi.pi hg.pg hb.ps hs, fun kp oa σ H ρ Dn κ E s hE ko hm => by
  refine (hi.tm.keep kp) _ σ H _ _ _ E s.vis hE hm fun items J H1 srcs hq e1 j1 hsrc hwk => ?_
  have s1 : SO (z.keep (srcs ++ kp)) O oa σ H1 ρ := SO.flatk.mp ((s.step e1 j1).keep hsrc)
  refine ⟨fun i m σ' H' => ∃ oa' ρ', i ≤ items.length ∧ m = items.length - i ∧ SO (z.keep (srcs ++ kp)) O oa' σ' H' ρ' ∧ forW mg mb κ E (items.drop i) ρ', ⟨_, oa, ρ, Nat.zero_le _, rfl, s1, by rw [List.drop_zero]; exact hq⟩, ?_⟩
  rintro i m σ' H' ⟨oa', ρ', hil, rfl, s', hf⟩
  obtain ⟨w1, w2⟩ := hwk (Uo (z.keep (srcs ++ kp)) O oa' ρ') H' s'.gu s'.dom s'.j fun p hp => s'.kp p (List.mem_append_left _ (List.mem_append_left _ hp))
  by_cases hlt : i < items.length
  · obtain ⟨hgo, hy⟩ := w1 i hlt
    rw [List.drop_eq_getElem_cons hlt] at hf
    refine .inr ⟨hgo, fun σ2 H2 => ∃ oa2 ρ2, SO (z.keep (srcs ++ kp)) O oa2 σ2 H2 ρ2 ∧ forW mg mb κ E (items.drop (i + 1)) ρ2, ?_, ?_⟩
    · rintro σ2 H2 ⟨oa2, ρ2, s2, h2⟩
      exact ⟨items.length - (i + 1), by omega, oa2, ρ2, hlt, rfl, s2, h2⟩
    · intro x H2 hyl
      obtain ⟨e2, j2, d, hd, rd⟩ := hy x H2 hyl
      rw [List.getElem?_eq_getElem hlt] at hd
      cases hd
      refine hg.tm (srcs ++ kp) oa' σ' H2 ρ' _ x _ _ (s'.step e2 j2) rd hf fun oa3 σ3 H3 ρ3 s3 h3 => ?_
      exact hb.tm (srcs ++ kp) oa3 σ3 H3 ρ3 _ { nx := forW mg mb κ E (items.drop (i + 1)), rt := κ.rt, bk := κ.nx, ct := forW mg mb κ E (items.drop (i + 1)) } E s3 hE ⟨fun oa σ H ρ s q => ⟨oa, ρ, s, q⟩, ko.rt, fun oa σ H ρ s q => ko.nx oa σ H ρ (SO.flatk.mpr s).unkeep q, fun oa σ H ρ s q => ⟨oa, ρ, s, q⟩⟩ h3
  · have e : i = items.length := by omega
    subst e
    rw [List.drop_length] at hf
    exact .inl ⟨w2, ko.nx oa' σ' H' ρ' (SO.flatk.mpr s').unkeep hf⟩⟩

/-! ### comprehensions -/
def wipeD (ρ : DEnv) : List Nat → DEnv
  | [] => ρ
  | v :: vs => (wipeD ρ vs).set v none
theorem wipeD_length (ρ : DEnv) : ∀ vs : List Nat, (wipeD ρ vs).length = ρ.length
  | [] => rfl
  | v :: vs => by unfold wipeD; rw [List.length_set, wipeD_length ρ vs]
theorem wipeD_some {ρ : DEnv} {i : Nat} {x : D} : ∀ {vs : List Nat}, (wipeD ρ vs)[i]? = some (some x) → ρ[i]? = some (some x) ∧ i ∉ vs
  | [], h => ⟨h, by simp⟩
  | v :: vs, h => by
    unfold wipeD at h
    by_cases hi : v = i
    · subst hi
      by_cases hv : v < (wipeD ρ vs).length
      · rw [List.getElem?_set_self hv] at h; cases h
      · rw [List.getElem?_eq_none (by simpa using hv)] at h; cases h
    · rw [List.getElem?_set_ne hi] at h
      obtain ⟨h1, h2⟩ := wipeD_some h
      exact ⟨h1, by simp only [List.mem_cons, not_or]; exact ⟨fun e => hi e.symm, h2⟩⟩
theorem wipe_get {σ : L2.St} {i : Nat} : ∀ {vs : List Nat}, i ∉ vs → (wipe σ vs)[i]? = σ[i]? := fun h => wipe_out h
theorem wipe_set {σ : L2.St} {i : Nat} {o : Option V} : ∀ {vs : List Nat}, i ∈ vs → wipe (σ.set i o) vs = wipe σ vs
  | [], h => by simp at h
  | v :: vs, h => by
    unfold wipe
    by_cases hv : i ∈ vs
    · rw [wipe_set hv]
    · have e : v = i := by
        rcases List.mem_cons.mp h with q | q
        · exact q.symm
        · exact absurd q hv
      subst e
      have go : ∀ (ws : List Nat), v ∉ ws → wipe (σ.set v o) ws = (wipe σ ws).set v o := by
        intro ws
        induction ws with
        | nil => intro _; rfl
        | cons w ws ih =>
          intro hw
          simp only [List.mem_cons, not_or] at hw
          show (wipe (σ.set v o) ws).set w none = ((wipe σ ws).set w none).set v o
          rw [ih hw.2, List.set_comm _ _ hw.1]
      rw [go vs hv, List.set_set]
theorem wipe_none {σ : L2.St} {i : Nat} : ∀ {vs : List Nat}, i ∈ vs → (wipe σ vs).set i none = wipe σ vs
  | [], h => by simp at h
  | v :: vs, h => by
    show ((wipe σ vs).set v none).set i none = (wipe σ vs).set v none
    rcases List.mem_cons.mp h with q | q
    · subst q
      rw [List.set_set]
    · by_cases e : i = v
      · subst e
        rw [List.set_set]
      · rw [List.set_comm _ _ (fun z => e z.symm), wipe_none q]
theorem wipe_wipe (σ : L2.St) (vs : List Nat) : wipe (wipe σ vs) vs = wipe σ vs := by
  have go : ∀ ws : List Nat, (∀ v, v ∈ ws → v ∈ vs) → wipe (wipe σ vs) ws = wipe σ vs := by
    intro ws
    induction ws with
    | nil => intro _; rfl
    | cons w ws ih =>
      intro h
      show (wipe (wipe σ vs) ws).set w none = _
      rw [ih fun v hv => h v (List.mem_cons_of_mem _ hv), wipe_none (h w (List.mem_cons_self ..))]
  exact go vs fun _ h => h
theorem WR.wipe {z : Zc} {U : Addr → Prop} {σ : L2.St} {H : Hp} {ρ : DEnv} (w : WR z U σ H ρ) (vs : List Nat) : WR z U (L2.wipe σ vs) H (wipeD ρ vs) := ⟨w.ok, w.u, w.dom, w.ext, w.j, by rw [wipeD_length, wipe_length]; exact w.env.1, fun (i : Nat) (d : D) h => by
  obtain ⟨h1, h2⟩ := wipeD_some h
  obtain ⟨v, e, r⟩ := w.env.2 i d h1
  exact ⟨v, by rw [wipe_get h2]; exact e, r⟩⟩
theorem WR.set {z : Zc} {U : Addr → Prop} {σ : L2.St} {H : Hp} {ρ : DEnv} (w : WR z U σ H ρ) (i : Nat) {d : D} {v : V} (r : Rep z.K U H d v) : WR z U (σ.set i (some v)) H (ρ.set i (some d)) := ⟨w.ok, w.u, w.dom, w.ext, w.j, by simpa using w.env.1, fun (k : Nat) (d' : D) h => by
  rcases set_some h with ⟨e, hl, e2⟩ | ⟨ne, h⟩
  · subst e; subst e2
    exact ⟨v, by rw [List.getElem?_set_self (by rw [← w.env.1]; exact hl)], r⟩
  · obtain ⟨v', e1, r'⟩ := w.env.2 k d' h
    exact ⟨v', by rw [List.getElem?_set_ne (Ne.symm ne)]; exact e1, r'⟩⟩
/-- targets within a comprehension: they store into the slots vs -/
def TMge (z : Zc) (vs : List Nat) (g : TG) (mg : D → (DEnv → Prop) → DEnv → Prop) : Prop := ∀ (U : Addr → Prop) (σ : L2.St) (H : Hp) (ρ : DEnv) (d : D) (v : V) (k : DEnv → Prop) (Q : L2.St → Hp → Prop), WR z U σ H ρ → Rep z.K U H d v → mg d k ρ → (∀ σ' ρ', WR z U σ' H ρ' → L2.wipe σ' vs = L2.wipe σ vs → k ρ' → Q σ' H) → g v σ H Q
def TMges (z : Zc) (vs : List Nat) (g : TGs) (mg : List D → (DEnv → Prop) → DEnv → Prop) : Prop := ∀ (U : Addr → Prop) (σ : L2.St) (H : Hp) (ρ : DEnv) (ds : List D) (xs : List V) (k : DEnv → Prop) (Q : L2.St → Hp → Prop), WR z U σ H ρ → Reps z.K U H ds xs → mg ds k ρ → (∀ σ' ρ', WR z U σ' H ρ' → L2.wipe σ' vs = L2.wipe σ vs → k ρ' → Q σ' H) → g xs σ H Q
structure DGe (X : Cx) (z : Zc) (vs : List Nat) (tg : Expr) (g : TG) (mg : D → (DEnv → Prop) → DEnv → Prop) : Prop where
  pg : PG X tg g
  tm : TMge z vs g mg
structure DGes (X : Cx) (z : Zc) (vs : List Nat) (ts : List Expr) (g : TGs) (mg : List D → (DEnv → Prop) → DEnv → Prop) : Prop where
  pg : PGs X ts g
  tm : TMges z vs g mg
section
variable {X : Cx} {z : Zc} {vs : List Nat} {pos : Pos}
theorem dge_name (i : Nat) {x : Str} (hN : X.N.Nodup) (hv : i ∈ vs := by decide) (hi : X.N[i]? = some x := by rfl) (hx : Loc X.env.scope x := by first | exact .inl rfl | exact .inr rfl) (hf : X.fn x = true ∨ X.env.scope.names.lookup x = some .local := by first | exact .inl rfl | exact .inr rfl) : DGe X z vs (.Name x pos) (gName i) (mgName i) := ⟨pg_name hN hi hx hf, fun U σ H ρ d v k Q w r hm kq =>
  kq _ _ (w.set i r) (wipe_set hv) hm⟩
theorem dges_nil : DGes X z vs [] gNil mgNil := ⟨pgs_nil, fun U σ H ρ ds xs k Q w r hm kq => by
  cases ds with
  | nil => simp only [Reps] at r; exact ⟨r, kq σ ρ w rfl hm⟩
  | cons d ds => exact hm.elim⟩
theorem dges_cons (i : Nat) {x : Str} {es : List Expr} {u : TGs} {m : List D → (DEnv → Prop) → DEnv → Prop} (hN : X.N.Nodup) (h2 : DGes X z vs es u m) (hv : i ∈ vs := by decide) (hi : X.N[i]? = some x := by rfl) (hx : Loc X.env.scope x := by first | exact .inl rfl | exact .inr rfl) (hf : X.fn x = true ∨ X.env.scope.names.lookup x = some .local := by first | exact .inl rfl | exact .inr rfl)
    (hs : (assignEach (.Name x pos :: es) X.env).map (·.2) = assign (.Name x pos) X.env :: (assignEach es X.env).map (·.2) := by rfl) : DGes X z vs (.Name x pos :: es) (gCons (gName i) u) (mgCons i m) := ⟨pgs_cons (pg_name hN hi hx hf) h2.pg hs, fun U σ H ρ ds xs k Q w r hm kq => by
  cases ds with
  | nil => exact hm.elim
  | cons d ds =>
    simp only [Reps] at r
    obtain ⟨v, vr, rfl, r1, r2⟩ := r
    exact ⟨v, vr, rfl, h2.tm U _ H _ ds vr k Q (w.set i r1) r2 hm fun σ' ρ' w' e h => kq σ' ρ' w' (e.trans (wipe_set hv)) h⟩⟩
theorem dge_tup {es : List Expr} {k : Nat} {t : TGs} {n : Nat} {m : List D → (DEnv → Prop) → DEnv → Prop} (hc : X.calm = true) (hK : X.K = z.K) (h : DGes X z vs es t m) (hn : (assignEach es X.env).length = n := by rfl) (hst : (assignEach es X.env).findIdx? (·.1) = none := by rfl) :
    DGe X z vs (.Tuple es k pos) (gTup z.K n t) (mgTup n m) := ⟨by rw [← hK]; exact pg_tup hc h.pg hn hst, fun U σ H ρ d v k Q w r hm kq => by
  cases d with
  | tup ds =>
    simp only [Rep] at r
    obtain ⟨a, xs, rfl, ha, r⟩ := r
    exact ⟨a, xs, rfl, ha.sq, by rw [r.length]; exact hm.1, h.tm U σ H ρ ds xs k Q w r hm.2 kq⟩
  | _ => exact hm.elim⟩
structure DTs (X : Cx) (z : Zc) (ifs : List Expr) (tt : TT) (mt : DEnv → M Bool) : Prop where
  pt : PTs X ifs tt
  tm : TMt z tt mt
theorem dts_nil : DTs X z [] tYes (fun _ => ret true) := ⟨pts_nil, fun U σ H ρ Q Qd E w he h k => k true H h (Ext.refl H) w.j⟩
theorem dts_one {c : Expr} {t : TT} {m : DEnv → M Bool} (h : DT X z c t m) : DTs X z [c] t m := ⟨pts_one h.pe, h.tm⟩
end
/-- a comprehension's turns; acc: what is made so far -/
def lcW (mg : D → (DEnv → Prop) → DEnv → Prop) (mt : DEnv → M Bool) (me : DEnv → M D) (ρ : DEnv) : List D → List D → (List D → Prop) → Prop
  | acc, [], Q => Q acc
  | acc, d :: r, Q => mg d (fun ρ' => mt ρ' (fun b => if b = true then me ρ' (fun y => lcW mg mt me ρ (acc ++ [y]) r Q) (fun _ => False) else lcW mg mt me ρ acc r Q) (fun _ => False)) ρ
abbrev mLc (mi : DEnv → M (List D)) (mg : D → (DEnv → Prop) → DEnv → Prop) (mt : DEnv → M Bool) (me : DEnv → M D) (vs : List Nat) (ρ : DEnv) : M D := fun Q E => mi ρ (fun items => items.length ≤ sizeLine ∧ lcW mg mt me (wipeD ρ vs) [] items fun acc => Q (.lst acc)) E
/-- a fresh list -/
def TMf (z : Zc) (te : TE) (m : DEnv → M D) : Prop := ∀ (U : Addr → Prop) (σ : L2.St) (H : Hp) (ρ : DEnv) (Q : VK) (Qd : D → Prop) (E : DX → Prop), WR z U σ H ρ → (∀ x, E x → z.Ed x) → m ρ Qd E →
  (∀ dd a u H', Qd dd → H a = none → Ext z.g.G H H' → z.g.J H' → H' a = some u → OwnO z.K (fun b => U b ∨ b = a) H' dd u → Q (.ref a) H') → te σ H Q
theorem TMf.tm {z : Zc} {te : TE} {m : DEnv → M D} (h : TMf z te m) : TMe z te m := fun U σ H ρ Q Qd E w he hm k => h U σ H ρ Q Qd E w he hm fun dd a u H' q ha e j hx r => k dd (.ref a) H' q e j (r.rep hx (w.fresh ha) fun _ h => .inl h)
theorem tmf_lc {z : Zc} {wi : TI} {mi : DEnv → M (List D)} {g : TG} {mg : D → (DEnv → Prop) → DEnv → Prop} {tt : TT} {mt : DEnv → M Bool} {te : TE} {me : DEnv → M D} {vs : List Nat} (hi : TMi z wi mi) (hg : TMge z.nox vs g mg) (ht : TMt z.nox tt mt) (he : TMe z.nox te me) :
    TMf z (tLc wi g tt te vs) (mLc mi mg mt me vs) := fun U σ H ρ Q Qd E w hE hm k => by
  refine hi U σ H ρ _ _ E w hE hm fun items J H1 srcs hq e1 j1 hsrc hwk L hL => ?_
  have w1 := w.step e1 j1
  have gL : ¬ z.g.G L := fun q => z.g.dom H1 L j1 q hL
  have nU : ¬ U L := w1.fresh hL
  have hHL : H L = none := by
    cases q : H L with
    | none => rfl
    | some o => rw [e1 L o q gL] at hL; cases hL
  have h0L : z.H0 L = none := by
    cases q : z.H0 L with
    | none => rfl
    | some o => rw [w1.ext L o q gL] at hL; cases hL
  -- what stands at a turn
  have up : ∀ {H2 : Hp} {o : HO} {acc : List V} {σ2 : L2.St} {ρ2 : DEnv}, WR z.nox (fun b => U b ∨ b = L) σ2 H2 ρ2 → H2 L = some (.lst acc) → WR z.nox (fun b => U b ∨ b = L) σ2 (upd H2 L o) ρ2 := fun {H2 o acc σ2 ρ2} w2 hl => by
    refine ⟨w2.ok, w2.u, fun a ha => ?_, fun a o' h g => ?_, z.g.st H2 _ w2.j (fun a ha => upd_ne fun q => gL (q ▸ ha)) (fun a φ e => by rw [upd_ne (fun q => by rw [q, hl] at e; cases e)]; exact e), w2.env.1, fun (i : Nat) (d : D) h => ?_⟩
    · by_cases q : a = L
      · rw [q, upd_same]; simp
      · rw [upd_ne q]; exact w2.dom a ha
    · rw [upd_ne (ne_of_none h h0L)]
      exact w2.ext a o' h g
    · obtain ⟨v, e, r⟩ := w2.env.2 i d h
      exact ⟨v, e, Rep.mono' (fun b ob hb n => ⟨by rw [upd_ne fun q => n (.inr q)]; exact hb, n⟩) d v r⟩
  have repUp : ∀ {H2 : Hp} {o : HO} {d : D} {v : V}, Rep z.K (fun b => U b ∨ b = L) H2 d v → Rep z.K (fun b => U b ∨ b = L) (upd H2 L o) d v := fun {H2 o d v} r =>
    Rep.mono' (fun b ob hb n => ⟨by rw [upd_ne fun q => n (.inr q)]; exact hb, n⟩) d v r
  have repsUp : ∀ {H2 : Hp} {o : HO} {d : List D} {v : List V}, Reps z.K (fun b => U b ∨ b = L) H2 d v → Reps z.K (fun b => U b ∨ b = L) (upd H2 L o) d v := fun {H2 o d v} r =>
    Reps.mono' (fun b ob hb n => ⟨by rw [upd_ne fun q => n (.inr q)]; exact hb, n⟩) d v r
  refine ⟨fun i m H2 => ∃ accD acc, i ≤ items.length ∧ m = items.length - i ∧ accD.length ≤ i ∧ H2 L = some (.lst acc) ∧ Reps z.K (fun b => U b ∨ b = L) H2 accD acc ∧ WR z.nox (fun b => U b ∨ b = L) (L2.wipe σ vs) H2 (wipeD ρ vs) ∧ (∀ p, p ∈ srcs → Rep z.K (fun b => U b ∨ b = L) H2 p.1 p.2) ∧ Ext z.g.G H H2 ∧ lcW mg mt me (wipeD ρ vs) accD (items.drop i) fun acc => Qd (.lst acc), ?_, ?_⟩
  · have first : ∀ {d : D} {v : V}, Rep z.K U H1 d v → Rep z.K (fun b => U b ∨ b = L) (upd H1 L (.lst [])) d v := fun {d v} r =>
      Rep.mono' (fun b ob hb n => ⟨by rw [upd_ne (ne_of_none hb hL)]; exact hb, fun q => q.elim n fun q => by rw [q, hL] at hb; cases hb⟩) d v r
    have ww := (w1.wipe vs).nox
    refine ⟨_, [], [], Nat.zero_le _, rfl, Nat.le_refl _, upd_same, Reps.nil, ⟨ww.ok, fun a h => .inl (ww.u a h), fun a ha => ?_, fun a o' h g => ?_, z.g.new j1 hL, ww.env.1, fun (i : Nat) (d : D) h => ?_⟩, fun p hp => first (hsrc p hp), e1.trans (Ext.new hL), by rw [List.drop_zero]; exact hq.2⟩
    · by_cases q : a = L
      · rw [q, upd_same]; simp
      · rw [upd_ne q]; exact w1.dom a (ha.resolve_right q)
    · rw [upd_ne (ne_of_none h h0L)]
      exact ww.ext a o' h g
    · obtain ⟨v, e, r⟩ := ww.env.2 i d h
      exact ⟨v, e, first r⟩
  · rintro i m H2 ⟨accD, acc, hil, rfl, hacc, hHL2, rAcc, w2, hsrc2, e2, hf⟩
    obtain ⟨k1, k2⟩ := hwk (fun b => U b ∨ b = L) H2 (fun a h => .inl (w.gu a h)) w2.dom w2.j hsrc2
    by_cases hlt : i < items.length
    · obtain ⟨hgo, hy⟩ := k1 i hlt
      rw [List.drop_eq_getElem_cons hlt] at hf
      refine .inr ⟨hgo, fun H3 => ∃ accD acc, accD.length ≤ i + 1 ∧ H3 L = some (.lst acc) ∧ Reps z.K (fun b => U b ∨ b = L) H3 accD acc ∧ WR z.nox (fun b => U b ∨ b = L) (L2.wipe σ vs) H3 (wipeD ρ vs) ∧ (∀ p, p ∈ srcs → Rep z.K (fun b => U b ∨ b = L) H3 p.1 p.2) ∧ Ext z.g.G H H3 ∧ lcW mg mt me (wipeD ρ vs) accD (items.drop (i + 1)) fun acc => Qd (.lst acc), ?_, ?_⟩
      · rintro H3 ⟨accD', acc', a1, a2, a3, a4, a5, a6, a7⟩
        exact ⟨items.length - (i + 1), by omega, accD', acc', hlt, rfl, a1, a2, a3, a4, a5, a6, a7⟩
      · intro x H3 hyl
        obtain ⟨e3, j3, d, hd, rd⟩ := hy x H3 hyl
        rw [List.getElem?_eq_getElem hlt] at hd
        cases hd
        have w3 := w2.step (z := z.nox) e3 j3
        have gu2 : ∀ a, z.g.G a → (fun b => U b ∨ b = L) a := fun a h => .inl (w.gu a h)
        have L3 : ∀ {H4 : Hp} {acc : List V} {H5 : Hp}, Ext z.g.G H4 H5 → H4 L = some (.lst acc) → H5 L = some (.lst acc) := fun e h => e _ _ h gL
        refine hg _ _ H3 _ _ x _ _ w3 rd hf fun σ4 ρ4 w4 hwp h4 => ⟨hwp.trans (wipe_wipe σ vs), ?_⟩
        refine ht _ σ4 H3 ρ4 _ _ _ w4 (fun _ h => h) h4 fun b H5 h5 e5 j5 => ?_
        have w5 := w4.step (z := z.nox) e5 j5
        have w3' := w3.step (z := z.nox) e5 j5
        cases b with
        | true =>
          rw [if_pos rfl] at h5 ⊢
          refine he _ σ4 H5 ρ4 _ _ _ w5 (fun _ h => h) h5 fun y v H6 h6 e6 j6 ry => ?_
          have w6 := w3'.step (z := z.nox) e6 j6
          refine ⟨acc, L3 (e3.trans (e5.trans e6)) hHL2, ?_, accD ++ [y], acc ++ [v], ?_, upd_same, repsUp ((((rAcc.ext e3 gu2).ext e5 gu2).ext e6 gu2).append (Reps.cons ry Reps.nil)), up w6 (L3 (e3.trans (e5.trans e6)) hHL2), fun p hp => repUp ((((hsrc2 p hp).ext e3 gu2).ext e5 gu2).ext e6 gu2), fun a o h g => ?_, h6⟩
          · rw [rAcc.length]
            have := hq.1
            omega
          · rw [List.length_append]
            show accD.length + 1 ≤ i + 1
            omega
          · rw [upd_ne (ne_of_none h hHL)]
            exact ((e2.trans e3).trans (e5.trans e6)) a o h g
        | false =>
          rw [if_neg Bool.false_ne_true] at h5 ⊢
          exact ⟨accD, acc, by omega, L3 (e3.trans e5) hHL2, (rAcc.ext e3 gu2).ext e5 gu2, w3', fun p hp => ((hsrc2 p hp).ext e3 gu2).ext e5 gu2, (e2.trans e3).trans e5, h5⟩
    · have e : i = items.length := by omega
      subst e
      rw [List.drop_length] at hf
      exact .inl ⟨k2, k (.lst accD) L (.lst acc) H2 hf hHL e2 w2.j hHL2 (.inl ⟨_, _, rfl, rfl, rAcc⟩)⟩
section
variable {X : Cx} {z : Zc} {O : List Nat} {elt tg iter : Expr} {ifs : List Expr} {scope : Scope} {own : List (Str × Nat)} {pos spos py : Pos} {wi : TI} {mi : DEnv → M (List D)} {g : TG} {mg : D → (DEnv → Prop) → DEnv → Prop} {tt : TT} {mt : DEnv → M Bool} {te : TE} {me : DEnv → M D} {y : Str}
/-- a list that is new, by a comprehension -/
structure DF (X : Cx) (z : Zc) (e : Expr) (te : TE) (m : DEnv → M D) : Prop where
  pe : PE X e te
  tm : TMf z te m
theorem DF.de {e : Expr} {m : DEnv → M D} (h : DF X z e te m) : DE X z e te m := ⟨h.pe, h.tm.tm⟩
theorem df_lc (hc : X.calm = true) (hN : X.N.Nodup) (hi : DI X z tg iter wi mi) (ok : BlkOk X.N X.env.scope scope own)
    (hg : ∀ (s : Shared) (H : Hp) (C : Addr) (cl : List (Str × Addr)) (fp : List Addr), DGe (X.blk s H scope (compEnvC scope cl C X.env) fp) z.nox (own.map (·.2)) tg g mg) (ht : ∀ (s : Shared) (H : Hp) (C : Addr) (cl : List (Str × Addr)) (fp : List Addr), DTs (X.blk s H scope (compEnvC scope cl C X.env) fp) z.nox ifs tt mt)
    (he : ∀ (s : Shared) (H : Hp) (C : Addr) (cl : List (Str × Addr)) (fp : List Addr), DE (X.blk s H scope (compEnvC scope cl C X.env) fp) z.nox elt te me) (hs : ∀ x, foldedSetIterable iter X.env x = pure x) :
    DF X z (.ListComp elt [⟨tg, iter, ifs, 0⟩] scope pos) (tLc wi g tt te (own.map (·.2))) (mLc mi mg mt me (own.map (·.2))) :=
  ⟨pe_lc hc hN hi.pi ok (fun s H C cl fp => (hg s H C cl fp).pg) (fun s H C cl fp => (ht s H C cl fp).pt) (fun s H C cl fp => (he s H C cl fp).pe) hs,
    tmf_lc hi.tm (hg {} (fun _ => none) 0 [] []).tm (ht {} (fun _ => none) 0 [] []).tm (he {} (fun _ => none) 0 [] []).tm⟩
end
end DL

/-! DOwn: names that get new lists; append and its like; several names at once. -/
namespace DL
open PySem PySem.Spec PyProof.Rows L2

/-! ### one name -/
theorem TMf.keep {z : Zc} {te : TE} {m : DEnv → M D} (h : TMf z te m) (kp : List (D × V)) : TMf (z.keep kp) te m := fun U σ H ρ Q Qd E w he hm k => h U σ H ρ Q Qd E ⟨⟨w.ok.gu, w.ok.ek⟩, w.u, w.dom, w.ext, w.j, w.env⟩ he hm k
theorem tms_set0 {z : Zc} {O : List Nat} {te : TE} {me : DEnv → M D} {i : Nat} (he : TMe z te me) (ho : i ∉ O) : TMs0 z O (tAsg te (gName i)) (fun κ E ρ => me (hide O ρ) (fun d => κ.nx (ρ.set i (some d))) E) := fun oa σ H ρ Dn κ E s hE ko hm =>
  he _ σ H _ _ _ E s.vis hE hm fun d v H' q e1 j1 r1 => ko.nx oa _ H' _ ((s.step e1 j1).set ho r1) q
theorem tms_new0 {z : Zc} {O : List Nat} {te : TE} {me : DEnv → M D} {i : Nat} (he : TMf z te me) (ho : i ∈ O) : TMs0 z O (tAsg te (gName i)) (fun κ E ρ => me (hide O ρ) (fun d => κ.nx (ρ.set i (some d))) E) := fun oa σ H ρ Dn κ E s hE ko hm =>
  he _ σ H _ _ _ E s.vis hE hm fun dd a u H' q ha e1 j1 hx r1 => ko.nx _ _ H' _ (s.setOwn ho e1 j1 ha hx r1) q
section
variable {X : Cx} {z : Zc} {O : List Nat} {e : Expr} {te : TE} {me : DEnv → M D} {pos pos' : Pos} {x : Str}
/-- x = a new list, the def's own from now on -/
theorem ds_new (i : Nat) (hN : X.N.Nodup) (he : DF X z e te me) (hi : X.N[i]? = some x := by rfl) (hx : Loc X.env.scope x := by first | exact .inl rfl | exact .inr rfl) (ho : i ∈ O := by decide) (hs : swapsWith e (some (.Name x pos')) pos.line X.env = pure false := by rfl) (hf : X.fn x = true ∨ X.env.scope.names.lookup x = some .local := by first | exact .inl rfl | exact .inr rfl) :
    DS X z O (.Assign [.Name x pos'] e pos) (tAsg te (gName i)) (fun κ E ρ => me (hide O ρ) (fun d => κ.nx (ρ.set i (some d))) E) := ⟨ps_set hN hi hx he.pe hs hf, tms_of fun kp => tms_new0 (he.tm.keep kp) ho⟩
variable {elt tg iter : Expr} {ifs : List Expr} {scope : Scope} {own : List (Str × Nat)} {spos py : Pos} {wi : TI} {mi : DEnv → M (List D)} {g : TG} {mg : D → (DEnv → Prop) → DEnv → Prop} {tt : TT} {mt : DEnv → M Bool}
/-- x = [..] on one line -/
theorem ds_setLc (i : Nat) (hc : X.calm = true) (hN : X.N.Nodup) (hi : DI X z tg iter wi mi) (ok : BlkOk X.N X.env.scope scope own)
    (hg : ∀ (s : Shared) (H : Hp) (C : Addr) (cl : List (Str × Addr)) (fp : List Addr), DGe (X.blk s H scope (compEnvC scope cl C X.env) fp) z.nox (own.map (·.2)) tg g mg) (ht : ∀ (s : Shared) (H : Hp) (C : Addr) (cl : List (Str × Addr)) (fp : List Addr), DTs (X.blk s H scope (compEnvC scope cl C X.env) fp) z.nox ifs tt mt)
    (he : ∀ (s : Shared) (H : Hp) (C : Addr) (cl : List (Str × Addr)) (fp : List Addr), DE (X.blk s H scope (compEnvC scope cl C X.env) fp) z.nox elt te me)
    (hsw : swapsWith (.ListComp elt [⟨tg, iter, ifs, 0⟩] scope pos) (some (.Name x py)) spos.line X.env = pure true)
    (hy : X.N[i]? = some x := by rfl) (hyl : X.env.scope.names.lookup x = some .local := by rfl) (ho : i ∉ O := by decide) (hs : ∀ x, foldedSetIterable iter X.env x = pure x := by intro _; rfl) :
    DS X z O (.Assign [.Name x py] (.ListComp elt [⟨tg, iter, ifs, 0⟩] scope pos) spos) (tAsg (tLc wi g tt te (own.map (·.2))) (gName i)) (fun κ E ρ => mLc mi mg mt me (own.map (·.2)) (hide O ρ) (fun d => κ.nx (ρ.set i (some d))) E) :=
  ⟨ps_setLc hc hN hy hyl hsw hi.pi ok (fun s H C cl fp => (hg s H C cl fp).pg) (fun s H C cl fp => (ht s H C cl fp).pt) (fun s H C cl fp => (he s H C cl fp).pe) hs,
    tms_of fun kp => tms_set0 (TMe.keep (tmf_lc hi.tm (hg {} (fun _ => none) 0 [] []).tm (ht {} (fun _ => none) 0 [] []).tm (he {} (fun _ => none) 0 [] []).tm).tm kp) ho⟩
theorem ds_newLc (i : Nat) (hc : X.calm = true) (hN : X.N.Nodup) (hi : DI X z tg iter wi mi) (ok : BlkOk X.N X.env.scope scope own)
    (hg : ∀ (s : Shared) (H : Hp) (C : Addr) (cl : List (Str × Addr)) (fp : List Addr), DGe (X.blk s H scope (compEnvC scope cl C X.env) fp) z.nox (own.map (·.2)) tg g mg) (ht : ∀ (s : Shared) (H : Hp) (C : Addr) (cl : List (Str × Addr)) (fp : List Addr), DTs (X.blk s H scope (compEnvC scope cl C X.env) fp) z.nox ifs tt mt)
    (he : ∀ (s : Shared) (H : Hp) (C : Addr) (cl : List (Str × Addr)) (fp : List Addr), DE (X.blk s H scope (compEnvC scope cl C X.env) fp) z.nox elt te me)
    (hsw : swapsWith (.ListComp elt [⟨tg, iter, ifs, 0⟩] scope pos) (some (.Name x py)) spos.line X.env = pure true)
    (hy : X.N[i]? = some x := by rfl) (hyl : X.env.scope.names.lookup x = some .local := by rfl) (ho : i ∈ O := by decide) (hs : ∀ x, foldedSetIterable iter X.env x = pure x := by intro _; rfl) :
    DS X z O (.Assign [.Name x py] (.ListComp elt [⟨tg, iter, ifs, 0⟩] scope pos) spos) (tAsg (tLc wi g tt te (own.map (·.2))) (gName i)) (fun κ E ρ => mLc mi mg mt me (own.map (·.2)) (hide O ρ) (fun d => κ.nx (ρ.set i (some d))) E) :=
  ⟨ps_setLc hc hN hy hyl hsw hi.pi ok (fun s H C cl fp => (hg s H C cl fp).pg) (fun s H C cl fp => (ht s H C cl fp).pt) (fun s H C cl fp => (he s H C cl fp).pe) hs,
    tms_of fun kp => tms_new0 (TMf.keep (tmf_lc hi.tm (hg {} (fun _ => none) 0 [] []).tm (ht {} (fun _ => none) 0 [] []).tm (he {} (fun _ => none) 0 [] []).tm) kp) ho⟩
/-- new lists -/
theorem reps_new {K : PySem.W.Frag} {U : Addr → Prop} {H : Hp} {p : Addr} {o : HO} {ds : List D} {xs : List V} (h : H p = none) (r : Reps K U H ds xs) : Reps K (fun b => U b ∨ b = p) (upd H p o) ds xs :=
  Reps.mono' (fun a u e n => ⟨by rw [upd_ne (ne_of_none e h)]; exact e, fun q => q.elim n fun q => by rw [q, h] at e; cases e⟩) ds xs r
theorem none_back {G : Addr → Prop} {g : GG} {H H' : Hp} {p : Addr} (j : g.J H') (e : Ext g.G H H') (h : H' p = none) : H p = none := by
  cases q : H p with
  | none => rfl
  | some o => rw [e p o q fun z => g.dom H' p j z h] at h; cases h
theorem df_lst {es : List Expr} {tr : TA} {mr : DEnv → M (List D)} (h : DA X z es tr mr) : DF X z (.List es pos) (tLst tr) (fun ρ => bnd (mr ρ) mLst) := ⟨pe_lst h.pe, fun U σ H ρ Q Qd E w he hm k => h.tm U σ H ρ _ _ E w he hm fun ds vs H1 h1 e1 j1 r1 =>
  ⟨by rw [r1.length]; exact h1.1, fun p hp => k (.lst ds) p _ _ h1.2 (none_back (G := z.g.G) j1 e1 hp) (e1.trans (Ext.new hp)) (z.g.new j1 hp) upd_same (.inl ⟨_, _, rfl, rfl, reps_new hp r1⟩)⟩⟩
theorem df_list {a : Expr} {ta : TE} {ma : DEnv → M D} {pp : Pos} (hK : X.K = z.K) (hm : X.mg "list" = none) (ha : DE X z a ta ma) (hg : Gl X "list" := by rfl) (he : starEach [a] X.env = (false, eval a X.env) :: starEach [] X.env := by rfl) (hpl : (backTo pos (starEach [] X.env)).any (·.1) = false := by rfl) :
    DF X z (.Call (.Name "list" pp) [a] [] pos) (tCB (rLstOf z.K) (tCons ta tNil)) (fun ρ => bnd (ma ρ) mLstOf) := ⟨by rw [← hK]; exact pe_callTy crLst hg hm (by decide +kernel) (pa_cons ha.pe pa_nil he) (by decide) (by decide) he hpl, fun U σ H ρ Q Qd E w he hm k => ha.tm U σ H ρ _ _ E w he hm fun d v H1 h1 e1 j1 r1 => by
  match d, h1 with
  | .tup ds, h1 =>
    obtain ⟨p, xs, rfl, hp, r⟩ := rep_tup_inv r1
    exact ⟨p, xs, rfl, .inr hp.sq, fun l hl => k (.lst ds) l _ _ h1 (none_back (G := z.g.G) j1 e1 hl) (e1.trans (Ext.new hl)) (z.g.new j1 hl) upd_same (.inl ⟨_, _, rfl, rfl, reps_new hl r⟩)⟩
  | .lst ds, h1 =>
    obtain ⟨p, xs, rfl, hp, r⟩ := rep_lst_inv r1
    exact ⟨p, xs, rfl, .inl (SqL.of hp.1), fun l hl => k (.lst ds) l _ _ h1 (none_back (G := z.g.G) j1 e1 hl) (e1.trans (Ext.new hl)) (z.g.new j1 hl) upd_same (.inl ⟨_, _, rfl, rfl, reps_new hl r⟩)⟩⟩

/-! ### append and its like -/
abbrev mOwn (i : Nat) (ρ : DEnv) (f : List D → Prop) : Prop := match ρ.getD i none with
  | some (.lst ds) => f ds
  | _ => False
theorem mOwn_inv {i : Nat} {ρ : DEnv} {f : List D → Prop} (h : mOwn i ρ f) : ∃ ds, ρ[i]? = some (some (.lst ds)) ∧ f ds := by
  have h : (match ρ.getD i none with | some (.lst ds) => f ds | _ => False) := h
  cases q : ρ.getD i none with
  | none => rw [q] at h; exact h.elim
  | some d =>
    rw [q] at h
    have q' : ρ[i]? = some (some d) := by
      rw [List.getD_eq_getElem?_getD] at q
      cases e : ρ[i]? with
      | none => rw [e] at q; simp at q
      | some o => rw [e] at q; simp at q; rw [q]
    cases d with
    | lst ds => exact ⟨ds, q', h⟩
    | _ => exact h.elim
variable {a : Expr} {ta : TE} {ma : DEnv → M D} {apos ipos : Pos}
abbrev tApp (K : PySem.W.Frag) (i : Nat) (ta : TE) : TS := tDrop (tBM K "list" rAppend (tVar i) (tCons ta tNil))
theorem tms_app0 {i : Nat} (ha : TMe z ta ma) (ho : i ∈ O) : TMs0 z O (tApp z.K i ta) (fun κ E ρ => mOwn i ρ fun ds => ma (hide O ρ) (fun d => ds.length < sizeLine ∧ κ.nx (ρ.set i (some (.lst (ds ++ [d]))))) E) := fun oa σ H ρ Dn κ E s hE ko hm => by
  obtain ⟨ds, hi, hm⟩ := mOwn_inv hm
  obtain ⟨_, xs, e1, e2, r⟩ := s.ownL ho hi
  refine ⟨_, e1, .inl ⟨rfl, _, SqL.of e2⟩, ha _ σ H _ _ _ E s.vis hE hm fun d v H' q f1 j1 r1 => ?_⟩
  have s1 := s.step f1 j1
  obtain ⟨nu, xs2, e1', e2', r'⟩ := s1.ownL ho hi
  have ex : xs2 = xs := by
    have := f1 _ _ e2 fun q => nu (s.ok.gu _ q)
    rw [e2'] at this
    cases this
    rfl
  refine ⟨oa i, xs2, v, rfl, rfl, e2', ?_, ko.nx oa _ _ _ (s1.put ho hi (r'.append (Reps.cons r1 Reps.nil))) q.2⟩
  rw [r'.length]
  exact q.1
theorem tms_appF0 {i : Nat} (ha : TMe z ta ma) (ho : i ∈ O) : TMs0 z O (tApp z.K i ta) (fun κ E ρ => mOwn i ρ fun ds => ma ρ (fun d => (flat d = true ∧ ds.length < sizeLine) ∧ κ.nx (ρ.set i (some (.lst (ds ++ [d]))))) E) := fun oa σ H ρ Dn κ E s hE ko hm => by
  obtain ⟨ds, hi, hm⟩ := mOwn_inv hm
  obtain ⟨_, xs, e1, e2, r⟩ := s.ownL ho hi
  refine ⟨_, e1, .inl ⟨rfl, _, SqL.of e2⟩, ha _ σ H _ _ _ E s.full hE hm fun d v H' q f1 j1 r1 => ?_⟩
  have s1 := s.step f1 j1
  obtain ⟨nu, xs2, e1', e2', r'⟩ := s1.ownL ho hi
  have r1' := s1.flat q.1.1 r1
  refine ⟨oa i, xs2, v, rfl, rfl, e2', ?_, ko.nx oa _ _ _ (s1.put ho hi (r'.append (Reps.cons r1' Reps.nil))) q.2⟩
  rw [r'.length]
  exact q.1.2
variable {cpos : Pos}
/-- x.append(e), x the def's own -/
theorem ds_app (i : Nat) (hK : X.K = z.K) (ha : DE X z a ta ma) (ho : i ∈ O := by decide) (hN : X.N[i]? = some x := by rfl) (hv : Vis X.env.scope x := by first | exact Or.inl rfl | exact Or.inr (Or.inl rfl) | exact Or.inr (Or.inr rfl)) (hd : (x == ("__debug__" : Str)) = false := by decide) (hcd : (x == ("__classdict__" : Str)) = false := by decide)
    (hbase : attributeBase (.Name x ipos) "append" X.env (eval (.Name x ipos) X.env) = eval (.Name x ipos) X.env := by rfl)
    (hfew : ((backTo cpos (starEach [a] X.env)).all (fun x => !x.1) && (backToKw cpos (keywordEach [] X.env)).all (fun x => x.1.isSome)
      && decide ([a].length + ([] : List Keyword).length + (if ([] : List Keyword).isEmpty then 0 else 1) < 30)) = true := by rfl)
    (hline : (apos.endLine == cpos.line) = true := by rfl) (hs : starEach [a] X.env = (false, eval a X.env) :: starEach [] X.env := by rfl) (hplain : (backTo cpos (starEach [] X.env)).any (·.1) = false := by rfl)
    (hsw : swapsWith (.Call (.Attribute (.Name x ipos) "append" apos) [a] [] cpos) none pos.line X.env = pure false := by rfl) :
    DS X z O (.Expr (.Call (.Attribute (.Name x ipos) "append" apos) [a] [] cpos) pos) (tApp z.K i ta) (fun κ E ρ => mOwn i ρ fun ds => ma (hide O ρ) (fun d => ds.length < sizeLine ∧ κ.nx (ρ.set i (some (.lst (ds ++ [d]))))) E) :=
  ⟨by rw [← hK]; exact ps_expr (pe_bm PySem.F.plainAttrs_list PySem.F.slot_list_append PySem.F.type_list_append mt_append (pv i hN hv hd hcd) (pa_cons ha.pe pa_nil hs) hbase hfew hline hs hplain) hsw, tms_of fun kp => tms_app0 (ha.tm.keep kp) ho⟩
/-- x.append(e), e of the own lists too -/
theorem ds_appF (i : Nat) (hK : X.K = z.K) (ha : DE X z a ta ma) (ho : i ∈ O := by decide) (hN : X.N[i]? = some x := by rfl) (hv : Vis X.env.scope x := by first | exact Or.inl rfl | exact Or.inr (Or.inl rfl) | exact Or.inr (Or.inr rfl)) (hd : (x == ("__debug__" : Str)) = false := by decide) (hcd : (x == ("__classdict__" : Str)) = false := by decide)
    (hbase : attributeBase (.Name x ipos) "append" X.env (eval (.Name x ipos) X.env) = eval (.Name x ipos) X.env := by rfl)
    (hfew : ((backTo cpos (starEach [a] X.env)).all (fun x => !x.1) && (backToKw cpos (keywordEach [] X.env)).all (fun x => x.1.isSome)
      && decide ([a].length + ([] : List Keyword).length + (if ([] : List Keyword).isEmpty then 0 else 1) < 30)) = true := by rfl)
    (hline : (apos.endLine == cpos.line) = true := by rfl) (hs : starEach [a] X.env = (false, eval a X.env) :: starEach [] X.env := by rfl) (hplain : (backTo cpos (starEach [] X.env)).any (·.1) = false := by rfl)
    (hsw : swapsWith (.Call (.Attribute (.Name x ipos) "append" apos) [a] [] cpos) none pos.line X.env = pure false := by rfl) :
    DS X z O (.Expr (.Call (.Attribute (.Name x ipos) "append" apos) [a] [] cpos) pos) (tApp z.K i ta) (fun κ E ρ => mOwn i ρ fun ds => ma ρ (fun d => (flat d = true ∧ ds.length < sizeLine) ∧ κ.nx (ρ.set i (some (.lst (ds ++ [d]))))) E) :=
  ⟨by rw [← hK]; exact ps_expr (pe_bm PySem.F.plainAttrs_list PySem.F.slot_list_append PySem.F.type_list_append mt_append (pv i hN hv hd hcd) (pa_cons ha.pe pa_nil hs) hbase hfew hline hs hplain) hsw, tms_of fun kp => tms_appF0 (ha.tm.keep kp) ho⟩
end

/-! ### several names at once -/
/-- what stands behind a row of expressions: plain values, and (marked true) new lists at As -/
def RowRep (K : PySem.W.Frag) (U : Addr → Prop) (H : Hp) : List Bool → List D → List V → List Addr → Prop
  | [], ds, vs, As => ds = [] ∧ vs = [] ∧ As = []
  | false :: fl, ds, vs, As => ∃ d r v s, ds = d :: r ∧ vs = v :: s ∧ Rep K U H d v ∧ RowRep K U H fl r s As
  | true :: fl, ds, vs, As => ∃ d r a s u A, ds = d :: r ∧ vs = .ref a :: s ∧ As = a :: A ∧ H a = some u ∧ OwnO K U H d u ∧ RowRep K U H fl r s A
theorem RowRep.mono {K : PySem.W.Frag} {U U' : Addr → Prop} {H H' : Hp} (e : ∀ a o, H a = some o → ¬ U a → H' a = some o ∧ ¬ U' a) : ∀ {fl : List Bool} {ds : List D} {vs : List V} {As : List Addr}, (∀ a o, a ∈ As → H a = some o → H' a = some o) → RowRep K U H fl ds vs As → RowRep K U' H' fl ds vs As
  | [], _, _, _, _, h => h
  | false :: fl, _, _, _, f, h => by
    obtain ⟨d, r, v, s, e1, e2, r1, r2⟩ := h
    exact ⟨d, r, v, s, e1, e2, Rep.mono' e d v r1, r2.mono e f⟩
  | true :: fl, _, _, _, f, h => by
    obtain ⟨es, r, a, s, xs, A, e1, e2, e3, h1, r1, r2⟩ := h
    subst e3
    exact ⟨es, r, a, s, xs, A, e1, e2, rfl, f _ _ (by simp) h1, r1.mono' e, r2.mono e fun b o hb => f b o (by simp [hb])⟩
def TMr (z : Zc) (fl : List Bool) (ta : TA) (m : DEnv → M (List D)) : Prop := ∀ (U : Addr → Prop) (σ : L2.St) (H : Hp) (ρ : DEnv) (Q : List V → Hp → Prop) (Qd : List D → Prop) (E : DX → Prop), WR z U σ H ρ → (∀ x, E x → z.Ed x) → m ρ Qd E →
  (∀ ds vs As H', Qd ds → Ext z.g.G H H' → z.g.J H' → (∀ a, a ∈ As → H a = none ∧ H' a ≠ none) → As.Nodup → RowRep z.K (fun b => U b ∨ b ∈ As) H' fl ds vs As → Q vs H') → ta σ H Q
structure DRow (X : Cx) (z : Zc) (fl : List Bool) (es : List Expr) (ta : TA) (m : DEnv → M (List D)) : Prop where
  pe : PA X es ta
  tm : TMr z fl ta m
/-- an environment beside a new list -/
theorem WR.beside {z : Zc} {U : Addr → Prop} {σ : L2.St} {H H1 : Hp} {ρ : DEnv} {a : Addr} (w : WR z U σ H ρ) (e : Ext z.g.G H H1) (j : z.g.J H1) (ha : H a = none) (ha' : H1 a ≠ none) : WR z (fun b => U b ∨ b = a) σ H1 ρ := by
  have w1 := w.step e j
  refine ⟨w1.ok, fun b h => .inl (w1.u b h), fun b h => ?_, w1.ext, j, w1.env.1, fun (i : Nat) (d : D) h => ?_⟩
  · rcases h with h | h
    · exact w1.dom b h
    · rw [h]; exact ha'
  · obtain ⟨v, h1, r⟩ := w.env.2 i d h
    refine ⟨v, h1, Rep.mono' (fun b o hb n => ⟨e b o hb fun q => n (w.gu b q), fun q => q.elim n fun q => ?_⟩) d v r⟩
    rw [q, ha] at hb
    cases hb
section
variable {X : Cx} {z : Zc} {O : List Nat} {e : Expr} {es : List Expr} {te : TE} {me : DEnv → M D} {tr : TA} {mr : DEnv → M (List D)} {fl : List Bool}
theorem dr_nil : DRow X z [] [] tNil (fun _ => ret []) := ⟨pa_nil, fun U σ H ρ Q Qd E w he h k => k [] [] [] H h (Ext.refl H) w.j (by simp) List.nodup_nil ⟨rfl, rfl, rfl⟩⟩
theorem dr_val (ha : DE X z e te me) (hr : DRow X z fl es tr mr) (hs : starEach (e :: es) X.env = (false, eval e X.env) :: starEach es X.env := by rfl) : DRow X z (false :: fl) (e :: es) (tCons te tr) (fun ρ => bnd (me ρ) fun x => bnd (mr ρ) fun xs => ret (x :: xs)) :=
  ⟨pa_cons ha.pe hr.pe hs, fun U σ H ρ Q Qd E w he h k => ha.tm U σ H ρ _ _ E w he h fun d v H1 h1 e1 j1 r1 => hr.tm U σ H1 ρ _ _ E (w.step e1 j1) he h1 fun ds vs As H2 h2 e2 j2 ha nd r2 => by
    refine k (d :: ds) (v :: vs) As H2 h2 (e1.trans e2) j2 (fun a hm => ⟨none_back (G := z.g.G) j1 e1 (ha a hm).1, (ha a hm).2⟩) nd ⟨d, ds, v, vs, rfl, rfl, ?_, r2⟩
    refine Rep.mono' (fun b o hb n => ⟨e2 b o hb fun q => n (w.gu b q), fun q => q.elim n fun q => ?_⟩) d v r1
    rw [(ha b q).1] at hb
    cases hb⟩
theorem dr_new (ha : DF X z e te me) (hr : DRow X z fl es tr mr) (hs : starEach (e :: es) X.env = (false, eval e X.env) :: starEach es X.env := by rfl) : DRow X z (true :: fl) (e :: es) (tCons te tr) (fun ρ => bnd (me ρ) fun x => bnd (mr ρ) fun xs => ret (x :: xs)) :=
  ⟨pa_cons ha.pe hr.pe hs, fun U σ H ρ Q Qd E w he h k => ha.tm U σ H ρ _ _ E w he h fun es a xs H1 h1 hn e1 j1 hx r1 => by
    refine hr.tm (fun b => U b ∨ b = a) σ H1 ρ _ _ E (w.beside e1 j1 hn (by rw [hx]; simp)) he h1 fun ds vs As H2 h2 e2 j2 hA nd r2 => ?_
    have ga : ¬ z.g.G a := fun q => z.g.dom H a w.j q hn
    have na : a ∉ As := fun q => by
      have := (hA a q).1
      rw [hx] at this
      cases this
    have hU : ∀ b, ((U b ∨ b = a) ∨ b ∈ As) ↔ (U b ∨ b ∈ a :: As) := fun b => by
      simp only [List.mem_cons]
      constructor
      · rintro ((h | h) | h)
        · exact .inl h
        · exact .inr (.inl h)
        · exact .inr (.inr h)
      · rintro (h | h | h)
        · exact .inl (.inl h)
        · exact .inl (.inr h)
        · exact .inr h
    have hUe : (fun b => (U b ∨ b = a) ∨ b ∈ As) = fun b => U b ∨ b ∈ a :: As := funext fun b => propext (hU b)
    refine k (es :: ds) (.ref a :: vs) (a :: As) H2 h2 (e1.trans e2) j2 (fun b hb => ?_) (List.nodup_cons.mpr ⟨na, nd⟩) ⟨es, ds, a, vs, xs, As, rfl, rfl, rfl, e2 _ _ hx ga, ?_, ?_⟩
    · rcases List.mem_cons.mp hb with q | q
      · rw [q]
        exact ⟨hn, by rw [e2 _ _ hx ga]; simp⟩
      · exact ⟨none_back (G := z.g.G) j1 e1 (hA b q).1, (hA b q).2⟩
    · refine r1.mono' fun b o hb n => ⟨e2 b o hb fun q => n (.inl (w.gu b q)), fun q => ?_⟩
      rcases q with q | q
      · exact n (.inl q)
      · rcases List.mem_cons.mp q with q | q
        · exact n (.inr q)
        · rw [(hA b q).1] at hb; cases hb
    · show RowRep z.K (fun b => U b ∨ b ∈ a :: As) H2 fl ds vs As
      rw [← hUe]
      exact r2⟩
end
/-- the caller's and the lists at As may change -/
def Zc.with (z : Zc) (As : List Addr) : Zc := { z with U0 := fun b => z.U0 b ∨ b ∈ As }
section
variable {z : Zc} {O : List Nat} {oa : Nat → Addr} {σ : L2.St} {H H' : Hp} {ρ : DEnv} {As : List Addr}
theorem uo_with : ∀ b, Uo (z.with As) O oa ρ b ↔ (Uo z O oa ρ b ∨ b ∈ As) := fun b => by
  unfold Uo Zc.with
  constructor
  · rintro ((h | h) | h)
    · exact .inl (.inl h)
    · exact .inr h
    · exact .inl (.inr h)
  · rintro ((h | h) | h)
    · exact .inl (.inl h)
    · exact .inr h
    · exact .inl (.inr h)
theorem SO.with (s : SO z O oa σ H ρ) (e : Ext z.g.G H H') (j : z.g.J H') (hA : ∀ a, a ∈ As → H a = none ∧ H' a ≠ none) : SO (z.with As) O oa σ H' ρ := by
  have s1 := s.step e j
  have rl : ∀ {d : D} {v : V}, Rep z.K (Uo z O oa ρ) H d v → Rep z.K (Uo (z.with As) O oa ρ) H' d v := fun {d v} r => Rep.mono' (fun b o hb n => ⟨e b o hb fun q => n (s.gu b q), fun q => ((uo_with b).mp q).elim n fun q => by rw [(hA b q).1] at hb; cases hb⟩) d v r
  have rls : ∀ {d : D} {v : HO}, OwnO z.K (Uo z O oa ρ) H d v → OwnO z.K (Uo (z.with As) O oa ρ) H' d v := fun {d v} r => r.mono' fun b o hb n => ⟨e b o hb fun q => n (s.gu b q), fun q => ((uo_with b).mp q).elim n fun q => by rw [(hA b q).1] at hb; cases hb⟩
  refine ⟨⟨fun a h => .inl (s.ok.gu a h), fun x cls dp H h1 h2 h3 h4 => s.ok.ek x cls dp H h1 h2 h3 (h4.less fun a h => .inl h)⟩, s1.ext, j, fun a h => ?_, s1.len, fun i d hi h => ?_, fun i d hi h => ?_, s1.inj, fun p hp => rl (s.kp p hp)⟩
  · rcases h with h | h
    · exact s1.d0 a h
    · exact (hA a h).2
  · obtain ⟨v, h1, r⟩ := s.env i d hi h
    exact ⟨v, h1, rl r⟩
  · obtain ⟨h0, nu, u, r, e1, e2⟩ := s.own i d hi h
    refine ⟨h0, fun q => q.elim nu fun q => ?_, u, rls r, e1, e _ _ e2 fun q => nu (s.ok.gu _ q)⟩
    rw [(hA _ q).1] at e2
    cases e2
/-- one of these becomes the def's own -/
theorem SO.adopt {a : Addr} {dd : D} {uu : HO} {i : Nat} (s : SO (z.with (a :: As)) O oa σ H ρ) (zo : z.Ok) (na : a ∉ As) (n0 : ¬ z.U0 a) (h0 : z.H0 a = none) (hi : i ∈ O) (hx : H a = some uu) (r : OwnO z.K (Uo (z.with (a :: As)) O oa ρ) H dd uu) :
    SO (z.with As) O (fun k => if k = i then a else oa k) (σ.set i (some (.ref a))) H (ρ.set i (some dd)) := by
  have hU : ∀ b, Uo (z.with As) O (fun k => if k = i then a else oa k) (ρ.set i (some dd)) b → Uo (z.with (a :: As)) O oa ρ b := fun b h => by
    rcases h with (h | h) | ⟨k, hk, ⟨d', h⟩, q⟩
    · exact .inl (.inl h)
    · exact .inl (.inr (List.mem_cons_of_mem _ h))
    · by_cases hki : k = i
      · simp only [if_pos hki] at q
        rw [← q]
        exact .inl (.inr (List.mem_cons_self ..))
      · simp only [if_neg hki] at q
        rcases set_some h with ⟨q', _, _⟩ | ⟨_, h⟩
        · exact absurd q' hki
        · exact .inr ⟨k, hk, ⟨d', h⟩, q⟩
  have at_ : ∀ {k : Nat} {d' : D}, k ∈ O → ρ[k]? = some (some d') → oa k ≠ a := fun {k d'} hk h q => (s.own k d' hk h).2.1 (by rw [q]; exact .inr (List.mem_cons_self ..))
  refine ⟨⟨fun b h => .inl (zo.gu b h), fun x cls dp H h1 h2 h3 h4 => zo.ek x cls dp H h1 h2 h3 (h4.less fun a h => .inl h)⟩, s.ext, s.j, fun b h => s.d0 b (h.elim .inl fun h => .inr (List.mem_cons_of_mem _ h)), by simpa using s.len, fun k d' hk h => ?_, fun k d' hk h => ?_, fun k l hk hl ⟨d1, h1⟩ ⟨d2, h2⟩ eq => ?_, fun p hp => (s.kp p hp).less hU⟩
  · rcases set_some h with ⟨q, _, _⟩ | ⟨ne, h⟩
    · exact absurd hi (q ▸ hk)
    · obtain ⟨v', e1, r'⟩ := s.env k d' hk h
      exact ⟨v', by rw [List.getElem?_set_ne (Ne.symm ne)]; exact e1, r'.less hU⟩
  · rcases set_some h with ⟨q, hl, q2⟩ | ⟨ne, h⟩
    · subst q; subst q2
      simp only [↓reduceIte]
      exact ⟨h0, fun q => q.elim n0 na, uu, r.less hU, by rw [List.getElem?_set_self (by rw [← s.len]; exact hl)], hx⟩
    · simp only [if_neg ne]
      obtain ⟨k0, ku, u', r', e1, e2⟩ := s.own k d' hk h
      exact ⟨k0, fun q => ku (q.elim .inl fun q => .inr (List.mem_cons_of_mem _ q)), u', r'.less hU, by rw [List.getElem?_set_ne (Ne.symm ne)]; exact e1, e2⟩
  · by_cases hki : k = i
    · by_cases hli : l = i
      · rw [hki, hli]
      · simp only [if_pos hki, if_neg hli] at eq
        rcases set_some h2 with ⟨q, _, _⟩ | ⟨_, h⟩
        · exact absurd q hli
        · exact absurd eq.symm (at_ hl h)
    · by_cases hli : l = i
      · simp only [if_neg hki, if_pos hli] at eq
        rcases set_some h1 with ⟨q, _, _⟩ | ⟨_, h⟩
        · exact absurd q hki
        · exact absurd eq (at_ hk h)
      · simp only [if_neg hki, if_neg hli] at eq
        refine s.inj k l hk hl ?_ ?_ eq
        · rcases set_some h1 with ⟨q, _, _⟩ | ⟨_, h⟩
          · exact absurd q hki
          · exact ⟨_, h⟩
        · rcases set_some h2 with ⟨q, _, _⟩ | ⟨_, h⟩
          · exact absurd q hli
          · exact ⟨_, h⟩
end
def setAll {α : Type} : List Nat → List α → List (Option α) → List (Option α)
  | i :: is, v :: vs, σ => setAll is vs (σ.set i (some v))
  | _, _, σ => σ
/-- the marked slots are own ones -/
def RowOk (O : List Nat) : List Bool → List Nat → Prop
  | [], [] => True
  | false :: fl, i :: is => i ∉ O ∧ RowOk O fl is
  | true :: fl, i :: is => i ∈ O ∧ RowOk O fl is
  | _, _ => False
theorem SO.setRow {z : Zc} {O : List Nat} {H : Hp} (zo : z.Ok) (hz : ∀ a, z.U0 a → H a ≠ none) : ∀ (fl : List Bool) (is : List Nat) (As : List Addr) (ds : List D) (vs : List V) (oa : Nat → Addr) (σ : L2.St) (ρ : DEnv), SO (z.with As) O oa σ H ρ → As.Nodup → (∀ a, a ∈ As → ¬ z.U0 a ∧ z.H0 a = none) → RowOk O fl is → RowRep z.K (Uo (z.with As) O oa ρ) H fl ds vs As →
    ∃ oa', SO z O oa' (setAll is vs σ) H (setAll is ds ρ)
  | [], [], As, ds, vs, oa, σ, ρ, s, nd, hA, hO, hr => by
    obtain ⟨rfl, rfl, rfl⟩ := hr
    have hU : ∀ b, Uo (z.with []) O oa ρ b ↔ Uo z O oa ρ b := fun b => (uo_with b).trans (by simp)
    have hUe : Uo (z.with []) O oa ρ = Uo z O oa ρ := funext fun b => propext (hU b)
    show ∃ oa', SO z O oa' σ H ρ
    refine ⟨oa, zo, s.ext, s.j, hz, s.len, fun i d hi h => ?_, fun i d hi h => ?_, s.inj, fun p hp => ?_⟩
    · rw [← hUe]; exact s.env i d hi h
    · rw [← hUe]
      obtain ⟨h0, nu, r⟩ := s.own i d hi h
      exact ⟨h0, fun q => nu (.inl q), r⟩
    · rw [← hUe]; exact s.kp p hp
  | false :: fl, i :: is, As, ds, vs, oa, σ, ρ, s, nd, hA, hO, hr => by
    obtain ⟨d, r, v, t, rfl, rfl, r1, r2⟩ := hr
    have s1 : SO (z.with As) O oa (σ.set i (some v)) H (ρ.set i (some d)) := s.set hO.1 r1
    exact SO.setRow zo hz fl is As r t oa _ _ s1 nd hA hO.2 (by rw [Uo_set hO.1]; exact r2)
  | true :: fl, i :: is, As, ds, vs, oa, σ, ρ, s, nd, hA, hO, hr => by
    obtain ⟨es, r, a, t, xs, A, rfl, rfl, rfl, hx, r1, r2⟩ := hr
    have nda := List.nodup_cons.mp nd
    have s1 := s.adopt zo nda.1 (hA a (List.mem_cons_self ..)).1 (hA a (List.mem_cons_self ..)).2 hO.1 hx r1
    refine SO.setRow zo hz fl is A r t _ _ _ s1 nda.2 (fun b hb => hA b (List.mem_cons_of_mem _ hb)) hO.2 ?_
    refine r2.mono (fun b o hb n => ⟨hb, fun q => n ?_⟩) fun b o _ h => h
    rcases q with (q | q) | ⟨k, hk, ⟨d', h⟩, q⟩
    · exact .inl (.inl q)
    · exact .inl (.inr (List.mem_cons_of_mem _ q))
    · by_cases hki : k = i
      · simp only [if_pos hki] at q
        rw [← q]
        exact .inl (.inr (List.mem_cons_self ..))
      · simp only [if_neg hki] at q
        rcases set_some h with ⟨q', _, _⟩ | ⟨_, h⟩
        · exact absurd q' hki
        · exact .inr ⟨k, hk, ⟨d', h⟩, q⟩
theorem rowRep_length {K : PySem.W.Frag} {U : Addr → Prop} {H : Hp} : ∀ {fl : List Bool} {ds : List D} {vs : List V} {As : List Addr}, RowRep K U H fl ds vs As → vs.length = fl.length ∧ ds.length = fl.length
  | [], _, _, _, h => by obtain ⟨rfl, rfl, _⟩ := h; exact ⟨rfl, rfl⟩
  | false :: fl, _, _, _, h => by
    obtain ⟨d, r, v, s, rfl, rfl, _, r2⟩ := h
    have := rowRep_length r2
    exact ⟨by simp [this.1], by simp [this.2]⟩
  | true :: fl, _, _, _, h => by
    obtain ⟨es, r, a, s, xs, A, rfl, rfl, rfl, _, _, r2⟩ := h
    have := rowRep_length r2
    exact ⟨by simp [this.1], by simp [this.2]⟩
theorem TMr.keep {z : Zc} {fl : List Bool} {ta : TA} {m : DEnv → M (List D)} (h : TMr z fl ta m) (kp : List (D × V)) : TMr (z.keep kp) fl ta m := fun U σ H ρ Q Qd E w he hm k => h U σ H ρ Q Qd E ⟨⟨w.ok.gu, w.ok.ek⟩, w.u, w.dom, w.ext, w.j, w.env⟩ he hm k
theorem tms_row0 {z : Zc} {O : List Nat} {fl : List Bool} {is : List Nat} {ta : TA} {ma : DEnv → M (List D)} {Post : Ends → L2.St → List V → Hp → Prop} (ha : TMr z fl ta ma) (hO : RowOk O fl is) (hts : ∀ Dn σ vs H1, vs.length = fl.length → Dn.nx (setAll is vs σ) H1 → Post Dn σ vs H1) :
    TMs0 z O (fun Dn σ H => ta σ H (Post Dn σ)) (fun κ E ρ => ma (hide O ρ) (fun ds => κ.nx (setAll is ds ρ)) E) := fun oa σ H ρ Dn κ E s hE ko hm => by
  refine ha _ σ H _ _ _ E s.vis hE hm fun ds vs As H' q e j hA nd hr => hts Dn σ vs H' (rowRep_length hr).1 ?_
  have s1 : SO (z.with As) O oa σ H' ρ := s.with e j hA
  have hUe : (fun b => Uo z O oa ρ b ∨ b ∈ As) = Uo (z.with As) O oa ρ := funext fun b => propext (uo_with b).symm
  rw [hUe] at hr
  obtain ⟨oa', s2⟩ := SO.setRow s.ok (s.step e j).d0 fl is As ds vs oa σ ρ s1 nd (fun a h => ⟨fun q => s.d0 a q (hA a h).1, by
    cases q : z.H0 a with
    | none => rfl
    | some o =>
      have := s.ext a o q fun g => z.g.dom H a s.j g (hA a h).1
      rw [(hA a h).1] at this
      cases this⟩) hO hr
  exact ko.nx oa' _ H' _ s2 q
theorem rowOk_len {O : List Nat} : ∀ {fl : List Bool} {is : List Nat}, RowOk O fl is → fl.length = is.length
  | [], [], _ => rfl
  | false :: fl, i :: is, h => by simp [rowOk_len h.2]
  | true :: fl, i :: is, h => by simp [rowOk_len h.2]
section
variable {X : Cx} {z : Zc} {O : List Nat} {i j l : Nat} {x y w : Str} {a b c : Expr} {ta : TA} {ma : DEnv → M (List D)} {fl : List Bool} {px py pz pt pos : Pos} {kt k2 pt2}
/-- a, b = e1, e2 -/
theorem ds_par2 (i j : Nat) (hc : X.calm = true) (hN : X.N.Nodup) (ha : DRow X z fl [a, b] ta ma) (hO : RowOk O fl [i, j] := by simp [RowOk]) (hi : X.N[i]? = some x := by rfl) (hj : X.N[j]? = some y := by rfl) (hij : i ≠ j := by decide)
    (hx : X.env.scope.names.lookup x = some .local := by rfl) (hy : X.env.scope.names.lookup y = some .local := by rfl)
    (hw : swappedStores [.Tuple [.Name x px, .Name y py] kt pt] (.Tuple [a, b] k2 pt2) X.env = pure (some [x, y]) := by rfl)
    (hs : swapsWithSole [.Tuple [.Name x px, .Name y py] kt pt] (.Tuple [a, b] k2 pt2) pos.line X.env = pure false := by rfl) :
    DS X z O (.Assign [.Tuple [.Name x px, .Name y py] kt pt] (.Tuple [a, b] k2 pt2) pos) (tPar i j ta) (fun κ E ρ => ma (hide O ρ) (fun ds => κ.nx (setAll [i, j] ds ρ)) E) :=
  ⟨ps_par hc hN hi hj hij hx hy ha.pe hw hs, tms_of fun kp => tms_row0 (ha.tm.keep kp) hO fun Dn σ vs H1 hl h => by
    rw [rowOk_len hO] at hl
    match vs, hl, h with
    | [v, w], _, h => exact ⟨v, w, rfl, h⟩⟩
/-- a, b, c = e1, e2, e3 -/
theorem ds_par3 (i j l : Nat) (hc : X.calm = true) (hN : X.N.Nodup) (ha : DRow X z fl [a, b, c] ta ma) (hO : RowOk O fl [i, j, l] := by simp [RowOk]) (hi : X.N[i]? = some x := by rfl) (hj : X.N[j]? = some y := by rfl) (hl : X.N[l]? = some w := by rfl) (hij : i ≠ j := by decide) (hil : i ≠ l := by decide) (hjl : j ≠ l := by decide)
    (hx : X.env.scope.names.lookup x = some .local := by rfl) (hy : X.env.scope.names.lookup y = some .local := by rfl) (hz : X.env.scope.names.lookup w = some .local := by rfl)
    (hw : swappedStores [.Tuple [.Name x px, .Name y py, .Name w pz] kt pt] (.Tuple [a, b, c] k2 pt2) X.env = pure (some [x, y, w]) := by rfl)
    (hs : swapsWithSole [.Tuple [.Name x px, .Name y py, .Name w pz] kt pt] (.Tuple [a, b, c] k2 pt2) pos.line X.env = pure false := by rfl) :
    DS X z O (.Assign [.Tuple [.Name x px, .Name y py, .Name w pz] kt pt] (.Tuple [a, b, c] k2 pt2) pos) (tPar3 i j l ta) (fun κ E ρ => ma (hide O ρ) (fun ds => κ.nx (setAll [i, j, l] ds ρ)) E) :=
  ⟨ps_par3 hc hN hi hj hl hij hil hjl hx hy hz ha.pe hw hs, tms_of fun kp => tms_row0 (ha.tm.keep kp) hO fun Dn σ vs H1 hl h => by
    rw [rowOk_len hO] at hl
    match vs, hl, h with
    | [u, v, w], _, h => exact ⟨u, v, w, rfl, h⟩⟩
end
end DL

/-! DCall: defs over data, their calls; instances of one attribute. -/
namespace DL
open PySem PySem.Spec PyProof.Rows L2

/-- a def of the module that keeps a promise over data -/
def GF (P : Program) (w : World) (K : PySem.W.Frag) (mg : Str → Option Value) (base : Heap) (g : GG) (x : Str) (n k : Nat) (sp : FS) : Prop :=
  ∃ f fd ps, mg x = some (.ref f) ∧ PySem.W.keepIn K (.ref f) = true ∧ FnOk P w K mg base (L2.CX P w) k f fd ps (spOf K g n sp) ∧ Binds K fd ps []
section
variable {X : Cx} {z : Zc} {a : Expr} {es : List Expr} {tr : TA} {mr : DEnv → M (List D)} {x : Str} {n k k' : Nat} {sp : FS} {pp pos : Pos}
abbrev mCall (n : Nat) (sp : FS) (ds : List D) : M D := fun Q E => ds.length = n ∧ sp ds Q E
theorem tm_call (h : TMa z tr mr) : TMe z (tCall (spOf z.K z.g n sp) [] z.EK tr) (fun ρ => bnd (mr ρ) (mCall n sp)) := fun U σ H ρ Q Qd E w he hm k =>
  h U σ H ρ _ _ E w he hm fun ds vs H1 h1 e1 j1 r1 => by
    have w1 := w.step e1 j1
    rw [List.append_nil]
    exact ⟨r1.length.trans h1.1, U, ds, Qd, E, w.gu, w1.dom, j1, r1, h1.2, fun d v H' q e2 j2 r2 => k d v H' q (e1.trans e2) j2 r2, fun x cls dp H' q e2 j2 r2 => w.ok.ek x cls dp H' (he x q) (w1.ext.trans e2) j2 (r2.less w.u)⟩
theorem de_call (F : GF X.prog X.w X.K X.mg X.base z.g x n k sp) (hr : Room k' X.A) (hk : k ≤ k') (tk : Takes X (fun c d _ H => z.EK c d H)) (hK : X.K = z.K) (ha : DA X z (a :: es) tr mr) (hg : Gl X x := by rfl) (hdb : (x == ("__debug__" : Str)) = false := by decide)
    (he : starEach (a :: es) X.env = (false, eval a X.env) :: starEach es X.env := by rfl) (hpl : (backTo pos (starEach es X.env)).any (·.1) = false := by rfl) : DE X z (.Call (.Name x pp) (a :: es) [] pos) (tCall (spOf z.K z.g n sp) [] z.EK tr) (fun ρ => bnd (mr ρ) (mCall n sp)) := by
  obtain ⟨f, fd, ps, h1, h2, h3, h4⟩ := F
  refine ⟨?_, tm_call ha.tm⟩
  rw [← hK]
  exact pe_call h3 (hr.mono hk) hg h1 h2 h4 .nil (passes_call tk fun _ _ _ _ h => h) ha.pe hdb he hpl
theorem de_call0 (F : GF X.prog X.w X.K X.mg X.base z.g x n k sp) (hr : Room k' X.A) (hk : k ≤ k') (tk : Takes X (fun c d _ H => z.EK c d H)) (hK : X.K = z.K) (hg : Gl X x := by rfl) (hdb : (x == ("__debug__" : Str)) = false := by decide) :
    DE X z (.Call (.Name x pp) [] [] pos) (tCall (spOf z.K z.g n sp) [] z.EK tNil) (fun ρ => mCall n sp []) := by
  obtain ⟨f, fd, ps, h1, h2, h3, h4⟩ := F
  refine ⟨?_, fun U σ H ρ Q Qd E w he hm k => tm_call (mr := fun _ => ret []) (fun U σ H ρ Q Qd E w he h k => k [] [] H h (Ext.refl H) w.j Reps.nil) U σ H ρ Q Qd E w he hm k⟩
  rw [← hK]
  exact pe_call0 h3 (hr.mono hk) hg h1 h2 h4 .nil (passes_call tk fun _ _ _ _ h => h) hdb
theorem takesN : Takes X (fun c d _ H => z.nox.EK c d H) := takes0
end
/-- the environment at the entry -/
def startD (N : List Str) (ds : List D) : DEnv := ds.map some ++ List.replicate (N.length - ds.length) none
theorem so_start {z : Zc} {O : List Nat} {N : List Str} {ds : List D} {vs : List V} (ok : z.Ok) (d0 : ∀ a, z.U0 a → z.H0 a ≠ none) (j : z.g.J z.H0) (r : Reps z.K z.U0 z.H0 ds vs) (hO : ∀ i, i ∈ O → ds.length ≤ i) (hk : z.kept = []) :
    SO z O (fun _ => 0) (L2.start N vs) z.H0 (startD N ds) := by
  have nO : ∀ (i : Nat) (d : D), i ∈ O → (startD N ds)[i]? = some (some d) → False := fun i d hi h => by
    unfold startD at h
    have hl := hO i hi
    rw [List.getElem?_append_right (by simpa using hl), List.getElem?_replicate] at h
    split at h <;> cases h
  have hU : Uo z O (fun _ => 0) (startD N ds) = z.U0 := by
    funext a
    apply propext
    constructor
    · rintro (h | ⟨i, hi, ⟨d, h⟩, _⟩)
      · exact h
      · exact (nO i d hi h).elim
    · exact .inl
  refine ⟨ok, Ext.refl _, j, d0, ?_, fun i d hi h => ?_, fun i d hi h => (nO i d hi h).elim, fun i k hi _ ⟨d, h⟩ => (nO i d hi h).elim, fun p hp => by rw [hk] at hp; cases hp⟩
  · unfold startD L2.start
    simp [r.length]
  · rw [hU]
    unfold startD at h
    unfold L2.start
    by_cases hl : i < ds.length
    · rw [List.getElem?_append_left (by simpa using hl), List.getElem?_map] at h
      cases e : ds[i]? with
      | none => rw [e] at h; cases h
      | some d' =>
        rw [e] at h
        cases h
        obtain ⟨v, h1, h2⟩ := r.getD e
        refine ⟨v, ?_, h2⟩
        rw [List.getElem?_append_left (by simpa [r.length] using hl), List.getElem?_map, h1]
        rfl
    · rw [List.getElem?_append_right (by simpa using Nat.le_of_not_lt hl), List.getElem?_replicate] at h
      split at h <;> cases h
/-- the context of a def's body -/
abbrev bCx (P : Program) (w : World) (K : PySem.W.Frag) (mg : Str → Option Value) (base : Heap) (N : List Str) (qual : Str) (st : Stmt) (f : Addr) (cdv : Value) (A : Around) (outer : List Env) (s : Shared) (H : Hp) (E : XK) : Cx :=
  cxOf (L2.CX P w) P w K mg base N qual (defScope st) f cdv A outer s H E
abbrev bZ (K : PySem.W.Frag) (g : GG) (U : Addr → Prop) (H : Hp) (Ed : DX → Prop) (E : XK) : Zc := { K := K, g := g, U0 := U, H0 := H, Ed := Ed, EK := E }
abbrev κOf (Q : D → Prop) : DK := { nx := fun _ => Q .non, rt := Q, bk := fun _ => False, ct := fun _ => False }
section
variable {P : Program} {w : World} {K : PySem.W.Frag} {mg : Str → Option Value} {base : Heap}
theorem bTakes {N : List Str} {qual : Str} {st : Stmt} {f : Addr} {cdv : Value} {A : Around} {outer : List Env} {s : Shared} {H : Hp} {E : XK} : Takes (bCx P w K mg base N qual st f cdv A outer s H E) (fun c d _ H => E c d H) := takes_of rfl rfl rfl rfl
theorem bPass {N : List Str} {qual : Str} {st : Stmt} {f : Addr} {cdv : Value} {A : Around} {outer : List Env} {s : Shared} {H : Hp} {E : XK} : PassesOwn (model P w) (bCx P w K mg base N qual st f cdv A outer s H E).A (bCx P w K mg base N qual st f cdv A outer s H E).env (bCx P w K mg base N qual st f cdv A outer s H E).xe := passes_of (X := bCx P w K mg base N qual st f cdv A outer s H E) rfl
/-- THE RULE for a def over data -/
theorem fun_okD {x qual : Str} {st : Stmt} {f : Addr} {fd : FuncData} {N ps : List Str} {k n : Nat} {g : GG} {sp : FS} (F : Fun K x qual st f fd) (S : FnScope N ps (defScope st)) (hn : ps.length = n) (O : List Nat) {ms : MS} (hO : ∀ i, i ∈ O → n ≤ i)
    (hb : ∀ (cdv : Value) (A : Around) (outer : List Env) (s : Shared) (H : Hp) (E : XK) (U : Addr → Prop) (Ed : DX → Prop), Room k (A.deeper (envOfC qual (defScope st) s.heap.objs.size f cdv)) →
      ∃ ts, DSs (bCx P w K mg base N qual st f cdv A outer s H E) (bZ K g U H Ed E) O (defBody st) ts ms)
    (h : ∀ ds Q E, ds.length = n → sp ds Q E → ms (κOf Q) E (startD N ds)) : FnOk P w K mg base (L2.CX P w) (k + 1) f fd ps (spOf K g n sp) := by
  refine F.okX S (fun vs H Q E h => h.1.trans hn.symm) fun cdv A outer s H vs Q E hr hsp => ?_
  obtain ⟨hl, U, ds, Qd, Ed, hG, hU, j, r, hf, hQ, hE⟩ := hsp
  obtain ⟨ts, d⟩ := hb cdv A outer s H E U Ed hr
  have hds : ds.length = n := r.length.symm.trans hl
  have ok : (bZ K g U H Ed E).Ok := ⟨hG, hE⟩
  refine ⟨ts, d.ps, d.tm [] _ _ _ _ _ (κOf Qd) Ed (so_start (z := bZ K g U H Ed E) (N := N) ok hU j r (fun i hi => by rw [hds]; exact hO i hi) rfl) (fun _ h => h) ⟨fun oa σ H' ρ s' q => hQ .non .non H' q s'.ext s'.j (by simp only [Rep]), fun d v H' q e j' r' => hQ d v H' q e j' r', fun _ _ _ _ _ q => q.elim, fun _ _ _ _ _ q => q.elim⟩ (h ds Qd Ed hds hf)⟩
theorem gf_of {x qual : Str} {st : Stmt} {f : Addr} {fd : FuncData} {ps : List Str} {k n : Nat} {g : GG} {sp : FS} (F : Fun K x qual st f fd) (hm : mg x = some (.ref f)) (b : Binds K fd ps []) (h : FnOk P w K mg base (L2.CX P w) k f fd ps (spOf K g n sp)) : GF P w K mg base g x n k sp := ⟨f, fd, ps, hm, F.kp, h, b⟩
end
end DL

/-! DLam: lambdas handed to a def, over data. -/
namespace DL
open PySem PySem.Spec PyProof.Rows L2 LamX NdefX

/-! ### later states -/
/-- the state (o, s, H) lies behind the state (o0, s0, H0), whose frames o0 it still has -/
structure Later (G : Addr → Prop) (o0 : List Env) (s0 : Shared) (H0 : Hp) (o : List Env) (s : Shared) (H : Hp) : Prop where
  keep : ∀ b u, s0.heap.get? b = some u → H0 b = none → b ∉ frs o0 → s.heap.get? b = some u
  free : ∀ b u, s0.heap.get? b = some u → H0 b = none → H b = none
  fr : ∀ b u, s0.heap.get? b = some u → b ∈ frs o → b ∈ frs o0
  there : ∀ b u, s0.heap.get? b = some u → ∃ u', s.heap.get? b = some u'
  ext : Ext G H0 H
theorem Later.trans {G : Addr → Prop} {o0 o1 o2 : List Env} {s0 s1 s2 : Shared} {H0 H1 H2 : Hp} (a : Later G o0 s0 H0 o1 s1 H1) (b : Later G o1 s1 H1 o2 s2 H2) : Later G o0 s0 H0 o2 s2 H2 :=
  ⟨fun x u e n f => b.keep x u (a.keep x u e n f) (a.free x u e n) fun z => f (a.fr x u e z), fun x u e n => by
    obtain ⟨u', e'⟩ := a.there x u e
    exact b.free x u' e' (a.free x u e n), fun x u e f => by
    obtain ⟨u', e'⟩ := a.there x u e
    exact a.fr x u e (b.fr x u' e' f), fun x u e => by
    obtain ⟨u', e'⟩ := a.there x u e
    exact b.there x u' e', a.ext.trans b.ext⟩
theorem Later.of {X : Cx} {pins : List (Addr × Obj)} {σ : L2.St} {H : Hp} {s : Shared} {G : Addr → Prop} (I : Inv X pins σ H s) (hx : X.ex = []) (e : Ext G X.H_0 H) : Later G X.outer X.s_0 X.H_0 X.stack s H := by
  have nx : ∀ b, b ∉ X.ex := fun b z => by rw [hx] at z; cases z
  refine ⟨fun b u h n f => I.base.keep b u h n f (nx b), fun b u h n => I.base.free b u h n (nx b), fun b u h f => ?_, fun b u h => I.base.there b u h (nx b), e⟩
  rcases List.mem_cons.mp (I.stkSub b f) with q | q
  · have h1 := Heap.lt_size h
    have h2 := I.ok.above
    rw [q] at h1
    exact absurd (Nat.lt_of_lt_of_le h1 h2) (Nat.lt_irrefl _)
  · exact q
/-- the function at f keeps the promise sp, whenever it is called behind the state (o0, s0, H0) -/
def CloAt (P : Program) (w : World) (K : PySem.W.Frag) (mg : Str → Option Value) (base : Heap) (g : GG) (o0 : List Env) (s0 : Shared) (H0 : Hp) (f : Addr) (n k : Nat) (sp : FS) : Prop :=
  ∀ (A : Around) (o : List Env) (s : Shared) (H : Hp), Later g.G o0 s0 H0 o s H → g.J H → Room k A → Env0 P w K mg base A o s H →
    PySem.W.FnAt f s.heap ∧ ∀ (us : List Value) (vs : List V) (Q : VK) (E : XK), Vals vs us → spOf K g n sp vs H Q E → codeAny (model P w) A (.call (.ref f) ⟨us, []⟩) (CR (L2.CX P w) o P w H s Q E) s
theorem CloAt.later {P : Program} {w : World} {K : PySem.W.Frag} {mg : Str → Option Value} {base : Heap} {g : GG} {o0 o1 : List Env} {s0 s1 : Shared} {H0 H1 : Hp} {f : Addr} {n k : Nat} {sp : FS} (c : CloAt P w K mg base g o0 s0 H0 f n k sp) (l : Later g.G o0 s0 H0 o1 s1 H1) : CloAt P w K mg base g o1 s1 H1 f n k sp :=
  fun A o s H l2 => c A o s H (l.trans l2)
theorem CloAt.mono {P : Program} {w : World} {K : PySem.W.Frag} {mg : Str → Option Value} {base : Heap} {g : GG} {o0 : List Env} {s0 : Shared} {H0 : Hp} {f : Addr} {n j k : Nat} {sp : FS} (c : CloAt P w K mg base g o0 s0 H0 f n j sp) (h : j ≤ k) : CloAt P w K mg base g o0 s0 H0 f n k sp :=
  fun A o s H l jj r => c A o s H l jj (r.mono h)

/-! ### a call of a name that holds it -/
section
variable {X : Cx} {z : Zc} {a : Expr} {es : List Expr} {tr : TA} {mr : DEnv → M (List D)} {x : Str} {f : Addr} {n k k' i : Nat} {sp : FS} {pp pos : Pos}
def tClo (K : PySem.W.Frag) (g : GG) (H0 : Hp) (i : Nat) (f : Addr) (n : Nat) (sp : FS) (E : XK) (t : TA) : TE := fun σ H Q => σ[i]? = some (some (.ref f)) ∧ t σ H fun vs H1 => Ext g.G H0 H1 ∧ g.J H1 ∧ spOf K g n sp vs H1 Q E
/-- what is met behind a call -/
theorem met {pins : List (Addr × Obj)} {σ : L2.St} {H : Hp} {s : Shared} {Q : VK} {E : XK} {us : List Value} {g : Addr} (hx : Passes (L2.CX X.prog X.w) X E) (I : Inv X pins σ H s)
    (h : codeAny (model X.prog X.w) X.A (.call (.ref g) ⟨us, []⟩) (CR (L2.CX X.prog X.w) X.stack X.prog X.w H s Q E) s) : wpAny (model X.prog X.w) X.A (call (.ref g) us) (EP X pins σ Q) X.xe s := by
  refine wpAny_call (codeAny_mono h fun res s2 hq => ?_)
  match res, hq with
  | .error e, hq => exact hx pins σ H s e s2 I hq
  | .ok (.ret u), hq => exact I.after hq
  | .ok .next, hq => exact False.elim hq
  | .ok .brk, hq => exact False.elim hq
  | .ok .cont, hq => exact False.elim hq
theorem de_clo (hC : CloAt X.prog X.w X.K X.mg X.base z.g X.outer X.s_0 X.H_0 f n k sp) (hK : X.K = z.K) (hx : X.ex = []) (h0 : z.H0 = X.H_0) (hr : Room k' X.A) (hk : k ≤ k') (tk : Takes X (fun c d _ H => z.EK c d H)) (ha : DA X z (a :: es) tr mr)
    (hN : X.N[i]? = some x := by rfl) (hv : Vis X.env.scope x := by first | exact Or.inl rfl | exact Or.inr (Or.inl rfl) | exact Or.inr (Or.inr rfl)) (hd : (x == ("__debug__" : Str)) = false := by decide)
    (hcd : (x == ("__classdict__" : Str)) = false := by decide) (he : starEach (a :: es) X.env = (false, eval a X.env) :: starEach es X.env := by rfl) (hpl : (backTo pos (starEach es X.env)).any (·.1) = false := by rfl) :
    DE X z (.Call (.Name x pp) (a :: es) [] pos) (tClo X.K z.g X.H_0 i f n sp z.EK tr) (fun ρ => bnd (gv ρ i) fun d => fun Q E => d = .obj f ∧ bnd (mr ρ) (mCall n sp) Q E) := by
  refine ⟨⟨fun pins s σ H Q I h => ?_⟩, fun U σ H ρ Q Qd E w hE hm k2 => ?_⟩
  · obtain ⟨hs, ht⟩ := h
    refine wpAny_Call_Name_kw (thn ((pe_var (pos := pp) (i := i) hN hv hd hcd).run pins s σ H (fun v H1 => v = .ref f ∧ H1 = H) I ⟨.ref f, hs, rfl, rfl⟩) fun u s1 hu => ?_)
    obtain ⟨v, H1, I1, r1, rfl, rfl⟩ := hu
    obtain rfl : u = Value.ref f := r1
    have fa : ∀ {s3 : Shared} {H3 : Hp}, Inv X pins σ H3 s3 → Ext z.g.G X.H_0 H3 → z.g.J H3 → PySem.W.FnAt f s3.heap ∧ _ := fun {s3 H3} I3 e3 j3 => hC X.A X.stack s3 H3 (Later.of I3 hx e3) j3 (hr.mono hk) I3.env0
    have run := ha.pe.run pos pins s1 σ _ _ I1 ht
    rw [he] at run ⊢
    refine PySem.W.callWith_of (by show ((false || (backTo pos (starEach es X.env)).any (·.1)) || false) = false; rw [hpl]; rfl) PySem.W.keeps_F (PySem.Calls.evalArgs_plain ?_)
    refine thn run fun us s2 hu2 => ?_
    obtain ⟨vs, H2, I2, r, e2, j2, q⟩ := hu2
    obtain ⟨q1, q2⟩ := fa I2 e2 j2
    exact ⟨q1, met (passes_call tk fun _ _ _ _ h => h) I2 (q2 us vs Q z.EK r q)⟩
  · have hm : (match ρ.getD i none with | some d => d = .obj f ∧ bnd (mr ρ) (mCall n sp) Qd E | none => False) := hm
    cases q : ρ.getD i none with
    | none => rw [q] at hm; exact hm.elim
    | some d =>
      rw [q] at hm
      obtain ⟨rfl, hm⟩ := hm
      have q' : ρ[i]? = some (some (.obj f)) := by
        rw [List.getD_eq_getElem?_getD] at q
        cases e : ρ[i]? with
        | none => rw [e] at q; simp at q
        | some o => rw [e] at q; simp at q; rw [q]
      obtain ⟨v, h1, h2⟩ := w.env.2 i _ q'
      simp only [Rep] at h2
      subst h2
      rw [hK]
      refine ⟨h1, ha.tm U σ H ρ _ _ E w hE hm fun ds vs H1 hh e1 j1 r1 => ?_⟩
      have w1 := w.step e1 j1
      exact ⟨by rw [← h0]; exact w1.ext, j1, r1.length.trans hh.1, U, ds, Qd, E, w.gu, w1.dom, j1, r1, hh.2, fun d v H' q e2 j2 r2 => k2 d v H' q (e1.trans e2) j2 r2, fun x cls dp H' q e2 j2 r2 => w.ok.ek x cls dp H' (hE x q) (w1.ext.trans e2) j2 (r2.less w.u)⟩
end

/-! ### a lambda is made -/
section
variable {X : Cx} {pins : List (Addr × Obj)} {σ : L2.St} {H : Hp} {s : Shared}
/-- all that is tracked but the table at P stays -/
def ExtP (P : Addr) (H H' : Hp) : Prop := ∀ b o, H b = some o → b ≠ P → H' b = some o
abbrev lamQ (X : Cx) : Str := X.env.qual ++ "<lambda>"
/-- the closure at f, just made by the running frame -/
structure MadeL (X : Cx) (params : Arguments) (body : Expr) (scope : Scope) (s : Shared) (H : Hp) (f c' : Addr) : Prop where
  get : ∃ pm ctv, s.heap.get? f = some (PySem.W.kla_obj "<lambda>" (lamQ X) params body scope (cloFrom X.env.cells scope.names []) pm c' ctv)
  no : H f = none
  nf : f ∉ frs X.stack
  co : H c' = some (CodeO c' (lamQ X))
theorem nofr_new (I : Inv X pins σ H s) {a : Addr} (ha : s.heap.objs.size ≤ a) : a ∉ frs X.stack := fun q => by
  cases List.mem_cons.mp (I.stkSub a q) with
  | inl e =>
    have l := I.lt
    rw [← e] at l
    exact absurd (Nat.lt_of_lt_of_le l ha) (Nat.lt_irrefl _)
  | inr e => exact I.nofs ha e
theorem lam_mk {T : List (Addr × Str)} {c P : Addr} {params : Arguments} {body : Expr} {scope : Scope} {pos : Pos} {E Q : Value → Shared → Prop} (I : Inv X pins σ H s) (B : TabB X.base X.mg c P) (hcode : X.env.code = .ref c)
    (hm : (P, lamQ X) ∈ T) (hu : ∀ p ∈ T, p.1 = P → p.2 = lamQ X) (hT : Tabs T H) (hdef : defaultsOf params X.env = ([], [])) (hfree : ∀ y ∈ scope.names, y.2 = .free → ∃ a, X.env.cells.lookup y.1 = some a)
    (h : ∀ (f c' : Addr) (H1 : Hp) (s' : Shared), Inv X pins σ H1 s' → ExtP P H H1 → Tabs T H1 → MadeL X params body scope s' H1 f c' → Q (.ref f) s') :
    wpAny (model X.prog X.w) X.A (eval (.Lambda params body scope pos) X.env) Q E s := by
  have tP : TabS H P (lamQ X) := hT _ hm
  obtain ⟨ps, eP, ok, among⟩ := tP
  have bi : s.heap.BuiltinsAt X.mg P := B.bm.keeps I.bk
  have oP : s.heap.get? P = some { cls := .none, data := .fields ps } := I.hok P _ eP
  apply PySem.W.kla_eval hdef
  match hc : codeAmong pos ps.toList with
  | some cv =>
    obtain ⟨c', rfl, co⟩ := among pos cv hc
    refine PySem.W.kla_makeFunctionHit (c := c) (P := P) (ps := ps) (mg := X.mg) (closure_ok hfree) I.ok.glob (I.mod.glob.keeps I.bk) hcode (B.code.keeps I.bk) oP ok hc bi fun ctv h' tk keep hsz => ?_
    exact h h'.objs.size c' H _ (I.kept (t' := tk) fun b o e => Heap.get?_push_of_some _ (keep b o e)) (fun _ _ e _ => e) hT ⟨⟨(X.mg "__name__").getD .none, ctv, Heap.get?_push_size _ rfl⟩, I.hok.fresh hsz, nofr_new I hsz, co⟩
  | none =>
    refine PySem.W.kla_makeFunction (c := c) (P := P) (ps := ps) (mg := X.mg) (closure_ok hfree) I.ok.glob (I.mod.glob.keeps I.bk) hcode (B.code.keeps I.bk) oP ok hc B.gP bi fun c' ctv h' tk keep ge lt hrec tab => ?_
    obtain ⟨c2, oc, vs, t, hcc, hoc, hd, hv⟩ := hrec
    cases hcc
    have new : H c' = none := I.hok.fresh ge
    have I1 := inv_table (t' := tk) (more := #[rawInt pos.line, rawInt pos.col, .ref c']) (h' := h'.push (PySem.W.kla_obj "<lambda>" (lamQ X) params body scope (cloFrom X.env.cells scope.names []) ((X.mg "__name__").getD .none) c' ctv)) I eP
      (fun b o ne e => Heap.get?_push_of_some _ (keep b o ne e)) (Heap.get?_push_of_some _ tab) ge ⟨oc, vs, t, Heap.get?_push_of_some _ hoc, hd, hv⟩
    have hsz : s.heap.objs.size ≤ h'.objs.size := by omega
    have kp : ExtP P H (upd (upd H P (.tbl (ps ++ #[rawInt pos.line, rawInt pos.col, .ref c']))) c' (CodeO c' (lamQ X))) := fun b o e n => by rw [upd_ne (ne_of_none e new), upd_ne n]; exact e
    have hl : (ps ++ #[rawInt pos.line, rawInt pos.col, .ref c']).toList = ps.toList ++ [rawInt pos.line, rawInt pos.col, .ref c'] := by simp
    have nP : ∀ {a : Addr} {o : HO}, H a = some o → (∀ qs, o ≠ .tbl qs) → a ≠ P := fun {a o} e n q => n ps (Option.some.inj ((q ▸ e).symm.trans eP))
    refine h h'.objs.size c' _ _ I1 kp (fun p hp => ?_) ⟨⟨(X.mg "__name__").getD .none, ctv, Heap.get?_push_size _ rfl⟩, ?_, nofr_new I hsz, upd_same⟩
    · by_cases hb : p.1 = P
      · rw [hu p hp hb, hb]
        refine ⟨_, (upd_ne (ne_of_none eP new)).trans upd_same, by rw [hl]; exact PySem.TriplesOk_snoc _ _ _ _ ok, fun p' cv hcv => ?_⟩
        rw [hl] at hcv
        cases among_app _ ok hcv with
        | inl q =>
          obtain ⟨c0, r1, r2⟩ := among p' cv q
          exact ⟨c0, r1, kp _ _ r2 (nP r2 codeO_ne)⟩
        | inr q => exact ⟨c', q, upd_same⟩
      · obtain ⟨qs, a1, a2, a3⟩ := hT p hp
        refine ⟨qs, kp _ _ a1 hb, a2, fun p' cv hcv => ?_⟩
        obtain ⟨c0, r1, r2⟩ := a3 p' cv hcv
        exact ⟨c0, r1, kp _ _ r2 (nP r2 codeO_ne)⟩
    · have n1 : h'.objs.size ≠ c' := by omega
      have lp := Heap.lt_size oP
      have n2 : h'.objs.size ≠ P := Nat.ne_of_gt (Nat.lt_of_lt_of_le lp hsz)
      rw [upd_ne n1, upd_ne n2]
      exact I.hok.fresh hsz
end

/-! ### what a made lambda promises -/
/-- a value that is the same in every heap -/
def capV : D → V
  | .bl b => .bl b
  | .int i => .int i
  | .str x => .str x
  | .ty n => .ty n
  | .obj a => .ref a
  | _ => .non
def isCap : D → Bool
  | .non | .bl _ | .int _ | .str _ | .ty _ | .obj _ => true
  | _ => false
theorem rep_cap {K : PySem.W.Frag} {U : Addr → Prop} {H : Hp} {d : D} {v : V} (h : isCap d = true) : Rep K U H d v ↔ v = capV d := by
  cases d <;> first | (simp only [Rep, capV]; done) | (simp [isCap] at h)
/-- the names' data at the entry of a lambda -/
def startC (N : List Str) (ds caps : List D) : DEnv := ds.map some ++ (caps.map some ++ List.replicate (N.length - ds.length - caps.length) none)
abbrev lamNF (X : Cx) (params : Arguments) (scope : Scope) (c' : Addr) : NF := ⟨"<lambda>", lamQ X, params, [], scope, cloFrom X.env.cells scope.names [], c'⟩
/-- the context of its body -/
abbrev lCx (X : Cx) (params : Arguments) (scope : Scope) (N : List Str) (f c' : Addr) (A : Around) (o : List Env) (s : Shared) (H : Hp) (E : XK) : Cx :=
  ncx (L2.CX X.prog X.w) X.prog X.w X.K X.mg X.base N (lamNF X params scope c') f A o s H E
section
variable {X : Cx} {pins : List (Addr × Obj)} {σ : L2.St} {H : Hp} {s : Shared} {params : Arguments} {body : Expr} {scope : Scope} {f c' : Addr} {N ps fr : List Str} {caps : List D} {g : GG} {n k : Nat} {spL : FS} {mb : DEnv → M D}
theorem lTakes {A : Around} {o : List Env} {E : XK} : Takes (lCx X params scope N f c' A o s H E) (fun c d _ H => E c d H) := takes_of rfl rfl rfl rfl
theorem clo_of (I : Inv X pins σ H s) (j : g.J H) (hx : ∀ H a φ, g.J H → g.G a → H a ≠ some (.ext φ)) (mk : MadeL X params body scope s H f c') (S : NScope N ps fr scope) (hn : ps.length = n)
    (hbind : ∀ (q : Str) (cl : List (Str × Addr)) (pm cv ctv : Value) (us : List Value), us.length = ps.length → bindArgs (PySem.W.kla_fn "<lambda>" q params body scope cl pm cv ctv) ⟨us, []⟩ = pure (ps.zip us))
    (C : CellsAt (cloFrom X.env.cells scope.names []) fr (caps.map fun d => some (capV d)) s.heap H) (hcf : ∀ y a, (cloFrom X.env.cells scope.names []).lookup y = some a → a ∉ frs X.stack) (hcap : ∀ d ∈ caps, isCap d = true)
    (hb : ∀ (A : Around) (o : List Env) (s' : Shared) (H' : Hp) (E : XK) (U : Addr → Prop) (Ed : DX → Prop), Later g.G X.stack s H o s' H' → Room k (A.deeper (envF (lamNF X params scope c') f s'.heap.objs.size)) →
      ∃ te, DE (lCx X params scope N f c' A o s' H' E) (bZ X.K g U H' Ed E) body te mb)
    (h : ∀ ds Q E, ds.length = n → spL ds Q E → mb (startC N ds caps) Q E) : CloAt X.prog X.w X.K X.mg X.base g X.stack s H f n (k + 1) spL := by
  intro A o s' H' l j' hr e0
  obtain ⟨⟨pm, ctv, hf⟩, f0, ff, co⟩ := mk
  have hf' := l.keep f _ hf f0 ff
  have co' : H' c' = some (CodeO c' (lamQ X)) := l.ext c' _ co fun q => hx H c' _ j q co
  refine ⟨⟨_, _, _, _, hf'⟩, fun us vs Q E r hsp => ?_⟩
  obtain ⟨hl, U, ds, Qd, Ed, hG, hU, _, rd, hs, hQ, hE⟩ := hsp
  have hds : ds.length = n := rd.length.symm.trans hl
  have lim : s'.heap.NoLimit := e0.mod.nolimit.keeps fun b u e => (e0.bs b u e).1
  have C' : CellsAt (cloFrom X.env.cells scope.names []) fr (caps.map fun d => some (capV d)) s'.heap H' := by
    have kp : ∀ y a, (cloFrom X.env.cells scope.names []).lookup y = some a → ∀ v, s.heap.IsCell a v → s'.heap.IsCell a v := fun y a e v ⟨u, hu, hd⟩ => ⟨u, l.keep a u hu (C.all y a e).1 (hcf y a e), hd⟩
    refine ⟨C.len, fun y a e => ?_, C.inj, fun i y e => ?_⟩
    · obtain ⟨n0, v, q⟩ := C.all y a e
      obtain ⟨u, hu, _⟩ := id q
      exact ⟨l.free a u hu n0, v, kp y a e v q⟩
    · obtain ⟨a, ha, hv⟩ := C.has i y e
      refine ⟨a, ha, fun v ev => ?_⟩
      obtain ⟨u, ru, q⟩ := hv v ev
      exact ⟨u, ru, kp y a ha _ q⟩
  refine PySem.W.kla_callFunE hr.depth hf' rfl S.co S.gen rfl (codeO_at e0.hok co') ?_
  rw [hbind _ _ _ _ _ us (by rw [← r.length, hl, hn])]
  refine wpAny_pure (wpAny_newFunctionEnv (fun y hy => S.nocell y hy) (fun y hy => S.par y.1 (List.of_mem_zip hy).1) (fun h₁ hns hsb => And.intro (lim.fresh _ hsb) ?_) S.kind)
  obtain ⟨te, d⟩ := hb A o s' H' E U Ed l (hr.deeper _)
  have kp : ∀ b u, s'.heap.get? b = some u → h₁.get? b = some u := fun b u e => hsb.extBut b u (Nat.ne_of_lt (Heap.lt_size e)) (Heap.get?_push_of_some _ e)
  have J : Inv (lCx X params scope N f c' A o s' H' E) [] (startF N vs (caps.map fun d => some (capV d))) H' { s' with heap := h₁, toks := s'.toks + (ps.zip us).length } := inv_startN (F := lamNF X params scope c') S hr.hd e0 (hl.trans hn.symm) r C' hns kp
  have env : EnvRep X.K U H' (startF N vs (caps.map fun d => some (capV d))) (startC N ds caps) := by
    unfold startF startC
    refine ⟨by simp [rd.length], fun i d hi => ?_⟩
    by_cases h1 : i < ds.length
    · rw [List.getElem?_append_left (by simpa using h1), List.getElem?_map] at hi
      rw [List.getElem?_append_left (by simpa [rd.length] using h1), List.getElem?_map]
      cases e : ds[i]? with
      | none => rw [e] at hi; cases hi
      | some d' =>
        rw [e] at hi
        cases hi
        obtain ⟨v, e1, e2⟩ := rd.getD e
        exact ⟨v, by rw [e1]; rfl, e2⟩
    · rw [List.getElem?_append_right (by simpa using Nat.le_of_not_lt h1)] at hi
      rw [List.getElem?_append_right (by simpa [rd.length] using Nat.le_of_not_lt h1)]
      simp only [List.length_map] at hi ⊢
      rw [rd.length]
      by_cases h2 : i - ds.length < caps.length
      · rw [List.getElem?_append_left (by simpa using h2), List.getElem?_map] at hi
        rw [List.getElem?_append_left (by simpa using h2), List.getElem?_map]
        cases e : caps[i - ds.length]? with
        | none => rw [e] at hi; cases hi
        | some d' =>
          rw [e] at hi
          cases hi
          exact ⟨capV d, rfl, (rep_cap (hcap d (List.mem_of_getElem? e))).mpr rfl⟩
      · rw [List.getElem?_append_right (by simpa using Nat.le_of_not_lt h2), List.getElem?_replicate] at hi
        split at hi <;> cases hi
  have w : WR (bZ X.K g U H' Ed E) U (startF N vs (caps.map fun d => some (capV d))) H' (startC N ds caps) := ⟨⟨hG, hE⟩, fun _ q => q, hU, Ext.refl _, j', env⟩
  have tm := d.tm U _ H' _ Q Qd Ed w (fun _ q => q) (h ds Qd Ed hds hs) hQ
  refine PySem.W.kla_codeExpr (wpAny_mono (d.pe.run [] _ _ H' Q J tm) (fun v s3 q => ?_) fun _ _ q => q)
  obtain ⟨v', H3, J3, rv, q3⟩ := q
  exact ⟨v', H3, J3.os, J3.bare, J3.base, J3.hok, rv, q3⟩
end

/-! ### an argument list whose last is a lambda -/
abbrev TL := L2.St → Hp → (List V → Addr → Hp → Prop) → Prop
structure PL (X : Cx) (params : Arguments) (body : Expr) (scope : Scope) (es : List Expr) (t : TL) : Prop where
  run : ∀ (pos : Pos) (pins : List (Addr × Obj)) (s : Shared) (σ : L2.St) (H : Hp) (Q : List V → Addr → Hp → Prop), Inv X pins σ H s → t σ H Q →
    wpAny (model X.prog X.w) X.A (spliced (backTo pos (starEach es X.env))) (fun us s' => ∃ vs f c' H', Inv X pins σ H' s' ∧ Vals vs us ∧ MadeL X params body scope s' H' f c' ∧ Q vs f H') X.xe s
def tlLast (T : List (Addr × Str)) (P : Addr) : TL := fun _ H Q => Tabs T H ∧ ∀ f H1, ExtP P H H1 → Tabs T H1 → Q [.ref f] f H1
def tlCons (te : TE) (tl : TL) : TL := fun σ H Q => te σ H fun v H1 => tl σ H1 fun vs f H2 => Q (v :: vs) f H2
/-- the same over data: the written arguments' data -/
def TMl (z : Zc) (tl : TL) (m : DEnv → M (List D)) : Prop := ∀ (U : Addr → Prop) (σ : L2.St) (H : Hp) (ρ : DEnv) (Q : List V → Addr → Hp → Prop) (Qd : List D → Prop) (E : DX → Prop), WR z U σ H ρ → (∀ x, E x → z.Ed x) → m ρ Qd E →
  (∀ ds vs f H', Qd ds → Ext z.g.G H H' → z.g.J H' → Reps z.K U H' (ds ++ [.obj f]) vs → Q vs f H') → tl σ H Q
structure DL (X : Cx) (z : Zc) (params : Arguments) (body : Expr) (scope : Scope) (es : List Expr) (tl : TL) (m : DEnv → M (List D)) : Prop where
  pl : PL X params body scope es tl
  tm : TMl z tl m
/-- how the law's things bear the making of lambdas -/
structure LamJ (g : GG) (T : List (Addr × Str)) (P : Addr) : Prop where
  t : ∀ H, g.J H → Tabs T H
  p : g.G P
  j : ∀ H H1, g.J H → ExtP P H H1 → Tabs T H1 → g.J H1
  x : ∀ H a φ, g.J H → g.G a → H a ≠ some (.ext φ)
section
variable {X : Cx} {z : Zc} {params : Arguments} {body : Expr} {scope : Scope} {T : List (Addr × Str)} {c P : Addr} {lpos : Pos}
theorem dl_last (J : LamJ z.g T P) (B : TabB X.base X.mg c P) (hcode : X.env.code = .ref c) (hm : (P, lamQ X) ∈ T) (hu : ∀ p ∈ T, p.1 = P → p.2 = lamQ X) (hdef : defaultsOf params X.env = ([], []))
    (hfree : X.Ok → ∀ y ∈ scope.names, y.2 = .free → ∃ a, X.env.cells.lookup y.1 = some a) : DL X z params body scope [.Lambda params body scope lpos] (tlLast T P) (fun _ => ret []) := by
  refine ⟨⟨fun pos pins s σ H Q I h => ?_⟩, fun U σ H ρ Q Qd E w he h k => ?_⟩
  · obtain ⟨hT, h⟩ := h
    show wpAny _ _ (spliced ((false, eval (.Lambda params body scope lpos) X.env) :: backTo pos (starEach [] X.env))) _ _ s
    refine Calls.spliced_cons (lam_mk I B hcode hm hu hT hdef (hfree I.ok) fun f c' H1 s' I1 e1 t1 mk => ?_)
    exact Calls.spliced_nil ⟨[.ref f], f, c', H1, I1, .cons rfl .nil, mk, h f H1 e1 t1⟩
  · refine ⟨J.t H w.j, fun f H1 e1 t1 => k [] _ f H1 h (fun a o ha ng => e1 a o ha fun q => ng (q ▸ J.p)) (J.j H H1 w.j e1 t1) (Reps.cons (by simp only [Rep]) Reps.nil)⟩
variable {e : Expr} {es : List Expr} {te : TE} {tl : TL} {me : DEnv → M D} {ml : DEnv → M (List D)}
theorem dl_cons (he : DE X z e te me) (hr : DL X z params body scope es tl ml) (hs : starEach (e :: es) X.env = (false, eval e X.env) :: starEach es X.env := by rfl) :
    DL X z params body scope (e :: es) (tlCons te tl) (fun ρ => bnd (me ρ) fun d => bnd (ml ρ) fun ds => ret (d :: ds)) := by
  refine ⟨⟨fun pos pins s σ H Q I h => ?_⟩, fun U σ H ρ Q Qd E w hE h k => ?_⟩
  · rw [hs]
    show wpAny _ _ (spliced ((false, eval e X.env) :: backTo pos (starEach es X.env))) _ _ s
    refine Calls.spliced_cons (thn (he.pe.run pins s σ H _ I h) fun u s1 hu => ?_)
    obtain ⟨v, H1, I1, r1, q1⟩ := hu
    have run := hr.pl.run pos pins s1 σ H1 _ I1 q1
    refine thn run fun us s2 hu2 => ?_
    obtain ⟨vs, f, c', H2, I2, r2, mk, q2⟩ := hu2
    exact ⟨v :: vs, f, c', H2, I2, .cons r1 r2, mk, q2⟩
  · refine he.tm U σ H ρ _ _ E w hE h fun d v H1 h1 e1 j1 r1 => hr.tm U σ H1 ρ _ _ E (w.step e1 j1) hE h1 fun ds vs f H2 h2 e2 j2 r2 => k (d :: ds) (v :: vs) f H2 h2 (e1.trans e2) j2 (Reps.cons (r1.ext e2 w.gu) r2)
end
/-! ### a def that takes a function as its last argument -/
def GFL (P : Program) (w : World) (K : PySem.W.Frag) (mg : Str → Option Value) (base : Heap) (g : GG) (x : Str) (n k nL kL : Nat) (sp : Addr → FS → FS) : Prop :=
  ∃ f, mg x = some (.ref f) ∧ PySem.W.keepIn K (.ref f) = true ∧ ∀ (A : Around) (o : List Env) (s : Shared) (H : Hp) (us : List Value) (vs : List V) (Q : VK) (E : XK) (fL : Addr) (spL : FS), Room k A → Env0 P w K mg base A o s H → Vals vs us →
    CloAt P w K mg base g o s H fL nL kL spL → spOf K g n (fun ds Qd Ed => ds.getLast? = some (.obj fL) ∧ sp fL spL ds Qd Ed) vs H Q E → codeAny (model P w) A (.call (.ref f) ⟨us, []⟩) (CR (L2.CX P w) o P w H s Q E) s
section
variable {P : Program} {w : World} {K : PySem.W.Frag} {mg : Str → Option Value} {base : Heap}
theorem gfl_of {x qual : Str} {st : Stmt} {f : Addr} {fd : FuncData} {N ps : List Str} {k n nL kL : Nat} {g : GG} {sp : Addr → FS → FS} (F : Fun K x qual st f fd) (hmg : mg x = some (.ref f)) (b : Binds K fd ps []) (S : FnScope N ps (defScope st)) (hn : ps.length = n) (O : List Nat) (hO : ∀ i, i ∈ O → n ≤ i)
    (hb : ∀ (fL : Addr) (spL : FS), ∃ ms : MS, (∀ (cdv : Value) (A : Around) (o : List Env) (s : Shared) (H : Hp) (E : XK) (U : Addr → Prop) (Ed : DX → Prop), Room k (A.deeper (envOfC qual (defScope st) s.heap.objs.size f cdv)) → fd.code = cdv → CloAt P w K mg base g o s H fL nL kL spL →
      ∃ ts, DSs (bCx P w K mg base N qual st f cdv A o s H E) (bZ K g U H Ed E) O (defBody st) ts ms) ∧ ∀ ds Q E, ds.length = n → ds.getLast? = some (.obj fL) → sp fL spL ds Q E → ms (κOf Q) E (startD N ds)) : GFL P w K mg base g x n (k + 1) nL kL sp := by
  refine ⟨f, hmg, F.kp, fun A o s H us vs Q E fL spL hr e0 r c hsp => ?_⟩
  obtain ⟨oc, od, kV, doc, pm, an, cdv, ct, osl, rfl, lk, hcd⟩ := F.ex
  obtain ⟨hl, U, ds, Qd, Ed, hG, hU, j, rd, ⟨hf0, hf⟩, hQ, hE⟩ := hsp
  have KX : K.In s.heap := e0.mod.kin.keeps fun b o e => (e0.bs b o e).1
  have hb2 := b s us KX (by rw [List.append_nil, ← r.length, hl, hn])
  rw [List.append_nil] at hb2
  refine run_ofS (N := N) (ps := ps) (us := us) (vs := vs) lk hcd S hr e0 hb2 r (hl.trans hn.symm) fun hr' => ?_
  obtain ⟨ms, hb1, h⟩ := hb fL spL
  obtain ⟨ts, d⟩ := hb1 cdv A o s H E U Ed hr' rfl c
  have hds : ds.length = n := rd.length.symm.trans hl
  have ok : (bZ K g U H Ed E).Ok := ⟨hG, hE⟩
  exact ⟨ts, d.ps, d.tm [] _ _ _ _ _ (κOf Qd) Ed (so_start (z := bZ K g U H Ed E) (N := N) ok hU j rd (fun i hi => by rw [hds]; exact hO i hi) rfl) (fun _ h => h) ⟨fun oa σ H' ρ s' q => hQ .non .non H' q s'.ext s'.j (by simp only [Rep]), fun d v H' q e j' r' => hQ d v H' q e j' r', fun _ _ _ _ _ q => q.elim, fun _ _ _ _ _ q => q.elim⟩ (h ds Qd Ed hds hf0 hf)⟩
/-- the rule for a def over data, its code object told -/
theorem fun_okDc {x qual : Str} {st : Stmt} {f : Addr} {fd : FuncData} {N ps : List Str} {k n : Nat} {g : GG} {sp : FS} (F : Fun K x qual st f fd) (S : FnScope N ps (defScope st)) (hn : ps.length = n) (O : List Nat) {ms : MS} (hO : ∀ i, i ∈ O → n ≤ i)
    (hb : ∀ (cdv : Value) (A : Around) (outer : List Env) (s : Shared) (H : Hp) (E : XK) (U : Addr → Prop) (Ed : DX → Prop), Room k (A.deeper (envOfC qual (defScope st) s.heap.objs.size f cdv)) → fd.code = cdv →
      ∃ ts, DSs (bCx P w K mg base N qual st f cdv A outer s H E) (bZ K g U H Ed E) O (defBody st) ts ms)
    (h : ∀ ds Q E, ds.length = n → sp ds Q E → ms (κOf Q) E (startD N ds)) : FnOk P w K mg base (L2.CX P w) (k + 1) f fd ps (spOf K g n sp) := by
  obtain ⟨oc, od, kV, doc, pm, an, cdv, ct, osl, rfl, lk, hcd⟩ := F.ex
  refine fn_of lk hcd S (fun vs H Q E h => h.1.trans hn.symm) fun A outer s H vs Q E hr hsp => ?_
  obtain ⟨hl, U, ds, Qd, Ed, hG, hU, j, r, hf, hQ, hE⟩ := hsp
  obtain ⟨ts, d⟩ := hb cdv A outer s H E U Ed hr rfl
  have hds : ds.length = n := r.length.symm.trans hl
  have ok : (bZ K g U H Ed E).Ok := ⟨hG, hE⟩
  exact ⟨ts, d.ps, d.tm [] _ _ _ _ _ (κOf Qd) Ed (so_start (z := bZ K g U H Ed E) (N := N) ok hU j r (fun i hi => by rw [hds]; exact hO i hi) rfl) (fun _ h => h) ⟨fun oa σ H' ρ s' q => hQ .non .non H' q s'.ext s'.j (by simp only [Rep]), fun d v H' q e j' r' => hQ d v H' q e j' r', fun _ _ _ _ _ q => q.elim, fun _ _ _ _ _ q => q.elim⟩ (h ds Qd Ed hds hf)⟩
end
/-! ### its call with a lambda -/
def tCallLam (K : PySem.W.Frag) (g : GG) (H0 : Hp) (n : Nat) (js : List Nat) (caps : List D) (spA : Addr → FS) (E : XK) (tl : TL) : TE := fun σ H Q => js.map (slotAt σ) = caps.map (fun d => some (capV d)) ∧ tl σ H fun vs f H1 => Ext g.G H0 H1 ∧ g.J H1 ∧ spOf K g n (fun ds Qd Ed => ds.getLast? = some (.obj f) ∧ spA f ds Qd Ed) vs H1 Q E
section
variable {X : Cx} {z : Zc} {params : Arguments} {body : Expr} {scope : Scope} {es : List Expr} {e : Expr} {tl : TL} {ml : DEnv → M (List D)} {x : Str} {n k k' nL kL : Nat} {sp : Addr → FS → FS} {spL : FS} {N ps fr : List Str} {js : List Nat} {caps : List D} {mb : DEnv → M D} {pp pos : Pos}
theorem de_lam (F : GFL X.prog X.w X.K X.mg X.base z.g x n k nL (kL + 1) sp) (hK : X.K = z.K) (hx : X.ex = []) (h0 : z.H0 = X.H_0) (hr : Room k' X.A) (hk : k ≤ k') (tk : Takes X (fun c d _ H => z.EK c d H))
    (hGx : ∀ H a φ, z.g.J H → z.g.G a → H a ≠ some (.ext φ)) (ha : DL X z params body scope (e :: es) tl ml) (S : NScope N ps fr scope) (hn : ps.length = nL)
    (hbind : ∀ (q : Str) (cl : List (Str × Addr)) (pm cv ctv : Value) (us : List Value), us.length = ps.length → bindArgs (PySem.W.kla_fn "<lambda>" q params body scope cl pm cv ctv) ⟨us, []⟩ = pure (ps.zip us))
    (cp : X.Ok → Caps X (cloFrom X.env.cells scope.names []) fr js) (hfn : ∀ y a, (cloFrom X.env.cells scope.names []).lookup y = some a → X.fn y = true) (hcap : ∀ d ∈ caps, isCap d = true)
    (hb : ∀ (f c' : Addr) (A : Around) (o : List Env) (s' : Shared) (H' : Hp) (E : XK) (U : Addr → Prop) (Ed : DX → Prop), Later z.g.G X.outer X.s_0 X.H_0 o s' H' → Room kL (A.deeper (envF (lamNF X params scope c') f s'.heap.objs.size)) →
      ∃ te, DE (lCx X params scope N f c' A o s' H' E) (bZ X.K z.g U H' Ed E) body te mb)
    (h : ∀ ds Q E, ds.length = nL → spL ds Q E → mb (startC N ds caps) Q E)
    (hg : Gl X x := by rfl) (hdb : (x == ("__debug__" : Str)) = false := by decide) (he : starEach (e :: es) X.env = (false, eval e X.env) :: starEach es X.env := by rfl) (hpl : (backTo pos (starEach es X.env)).any (·.1) = false := by rfl) :
    DE X z (.Call (.Name x pp) (e :: es) [] pos) (tCallLam X.K z.g X.H_0 n js caps (fun f => sp f spL) z.EK tl) (fun ρ => fun Q E => js.map (fun j => ρ.getD j none) = caps.map some ∧ bnd (ml ρ) (fun ds Q E => ∀ f, mCall n (sp f spL) (ds ++ [.obj f]) Q E) Q E) := by
  obtain ⟨g, h1, h2, h3⟩ := F
  refine ⟨⟨fun pins s σ H Q I hh => ?_⟩, fun U σ H ρ Q Qd E w hE hm k2 => ?_⟩
  · obtain ⟨hcs, ht⟩ := hh
    refine wpAny_Call_Name_kw (ld_glob I hg h1 ?_ hdb)
    refine PySem.W.callWith_K (h₀ := X.base) I.ok.mod.kin h2 (thn (ha.pl.run pos pins s σ H _ I ht) fun us s1 hu => ?_) he hpl
    obtain ⟨vs, f, c', H1, I1, r, mk, e1, j1, q⟩ := hu
    refine ⟨I1.kIn, met (passes_call tk fun _ _ _ _ h => h) I1 (h3 X.A X.stack s1 H1 us vs Q z.EK f spL (hr.mono hk) I1.env0 r ?_ q)⟩
    have C := cells_of I1 (cp I1.ok)
    rw [hcs] at C
    refine clo_of I1 j1 hGx mk S hn hbind C (fun y a hy hs => ?_) hcap (fun A o s' H' E U Ed l rr => hb f c' A o s' H' E U Ed ((Later.of I1 hx e1).trans l) rr) h
    have hy' := (cp I1.ok).sub y a hy
    rcases List.mem_cons.mp (I1.stkSub a hs) with q | q
    · obtain ⟨_, v, u, hu, hd⟩ := C.all y a hy
      obtain ⟨m, ⟨u2, es2, ep, hu2, hd2, _⟩, _⟩ := I1.loc
      rw [← q, hu] at hu2
      cases hu2
      rw [hd] at hd2
      cases hd2
    · have ca := I1.ok.cab y a (hfn y a hy) hy'
      obtain ⟨_, u, hu, _⟩ := I1.ok.funs.mem q
      exact absurd (Nat.lt_of_lt_of_le (Heap.lt_size hu) ca) (Nat.lt_irrefl _)
  · obtain ⟨hc, hm⟩ := hm
    refine ⟨?_, ha.tm U σ H ρ _ _ E w hE hm fun ds vs f H1 hh e1 j1 r1 => ?_⟩
    · have : ∀ (js : List Nat) (caps : List D), (∀ d ∈ caps, isCap d = true) → js.map (fun j => ρ.getD j none) = caps.map some → js.map (slotAt σ) = caps.map fun d => some (capV d) := by
        intro js
        induction js with
        | nil =>
          intro caps _ q
          cases caps with
          | nil => rfl
          | cons d caps => simp at q
        | cons j js ih =>
          intro caps hcap q
          cases caps with
          | nil => simp at q
          | cons d caps =>
            simp only [List.map_cons, List.cons.injEq] at q ⊢
            refine ⟨?_, ih caps (fun d hd => hcap d (List.mem_cons_of_mem _ hd)) q.2⟩
            have q' : ρ[j]? = some (some d) := by
              have q1 := q.1
              rw [List.getD_eq_getElem?_getD] at q1
              cases e : ρ[j]? with
              | none => rw [e] at q1; simp at q1
              | some o => rw [e] at q1; simp at q1; rw [q1]
            obtain ⟨v, h1, h2⟩ := w.env.2 j d q'
            rw [(rep_cap (hcap d List.mem_cons_self)).mp h2] at h1
            exact slotAt_of h1
      exact this js caps hcap hc
    · have w1 := w.step e1 j1
      rw [hK]
      obtain ⟨hh1, hh2⟩ := hh f
      exact ⟨by rw [← h0]; exact w1.ext, j1, r1.length.trans hh1, U, _, Qd, E, w.gu, w1.dom, j1, r1, ⟨by simp, hh2⟩, fun d v H' q e2 j2 r2 => k2 d v H' q (e1.trans e2) j2 r2, fun x cls dp H' q e2 j2 r2 => w.ok.ek x cls dp H' (hE x q) (w1.ext.trans e2) j2 (r2.less w.u)⟩
end
end DL

/-! DCls: isinstance, attributes, properties, new instances, over data. -/
namespace DL
open PySem PySem.Spec PyProof.Rows L2

/-! ### isinstance -/
/-- an own class whose instances are told by their class alone -/
structure ClsF (K : PySem.W.Frag) (C : Addr) : Prop where
  cl : Cls K C
  ha : PySem.W.findIn K (.ref C) "__class__" = some (some (.builtin "object.__class__"))
  hn : PySem.W.specialIn K (.builtin "object.__class__") "__get__" = some (some (.builtin "getset_descriptor.__get__"))
  ht : PySem.W.takesIn K (.builtin "object.__class__") = some true
  hm : PySem.W.mroIn K C (.type "object") = some true
def tyD : D → Option String
  | .non => some "NoneType"
  | .bl _ => some "bool"
  | .int _ => some "int"
  | .str _ => some "str"
  | .tup _ => some "tuple"
  | .lst _ => some "list"
  | .dK _ _ => some "dict"
  | .dT _ _ => some "dict"
  | _ => none
def tyNs : List String := ["NoneType", "bool", "int", "str", "tuple", "list", "dict"]
def isTy (a b : String) : Bool := a == b || (a == "bool" && b == "int")
theorem kitB_ty : ∀ a ∈ tyNs, ∀ b ∈ ["bool", "int", "str", "tuple", "list", "dict"], kitB a b = some (isTy a b) := by decide +kernel
theorem tyD_in {d : D} {t : String} (h : tyD d = some t) : t ∈ tyNs := by
  cases d <;> simp [tyD] at h <;> subst h <;> decide
/-- the own classes that isinstance is asked of -/
structure CSF (K : PySem.W.Frag) (CS : List Addr) : Prop where
  cls : ∀ C ∈ CS, ClsF K C
  tb : ∀ C ∈ CS, ∀ b ∈ ["bool", "int", "str", "tuple", "list", "dict"], PySem.W.kitOne K (.ref C) (.type b) = some false
  bt : ∀ C ∈ CS, ∀ a ∈ tyNs, PySem.W.kitOne K (.type a) (.ref C) = some false
  cc : ∀ C ∈ CS, ∀ C' ∈ CS, PySem.W.kitOne K (.ref C) (.ref C') = some (C == C')
abbrev mIsi (CS : List Addr) (d c : D) : M D := fun Q _ => match c with
  | .ty b => b ∈ ["bool", "int", "str", "tuple", "list", "dict"] ∧ match tyD d with
    | some a => Q (.bl (isTy a b))
    | none => match d with
      | .ins C _ _ => C ∈ CS ∧ Q (.bl false)
      | _ => False
  | .obj C' => C' ∈ CS ∧ match tyD d with
    | some _ => Q (.bl false)
    | none => match d with
      | .ins C _ _ => C ∈ CS ∧ Q (.bl (C == C'))
      | _ => False
  | _ => False
theorem tyx_of {K : PySem.W.Frag} {U : Addr → Prop} {H : Hp} {d : D} {v : V} {a : String} (r : Rep K U H d v) (h : tyD d = some a) : TyX K H v (.type a) := by
  cases d <;> simp only [tyD, Option.some.injEq] at h <;> first | (subst h) | (cases h)
  all_goals simp only [Rep] at r
  · subst r; exact .base .non
  · subst r; exact .base (.bl _)
  · subst r; exact .base (.int _)
  · subst r; exact .base (.str _)
  · obtain ⟨p, xs, rfl, q, _⟩ := r
    rcases q with ⟨q | ⟨o, q⟩, _⟩ | ⟨o, its, n, e, c, _⟩
    · exact .base (.tup q)
    · exact .fTuple q
    · exact .kTuple e c
  · obtain ⟨p, xs, rfl, ⟨q, _⟩, _⟩ := r
    exact .base (.lst q)
  · obtain ⟨p, xs, rfl, ⟨q, _⟩, _⟩ := r
    exact .base (.dK q)
  · obtain ⟨p, xs, rfl, ⟨q, _⟩, _⟩ := r
    exact .base (.dT q)
section
variable {X : Cx} {z : Zc}
theorem rmIsi {CS : List Addr} (F : CSF z.K CS) : RMn z (rIsi z.K) (m2 (mIsi CS)) := rmn2 fun U H d c x y Q Qd E gu hU j r1 r2 he h k => by
  cases c with
  | ty b =>
    obtain ⟨hb, h⟩ := h
    simp only [Rep] at r2
    subst r2
    cases ht : tyD d with
    | some a =>
      rw [ht] at h
      exact ⟨x, _, _, _, _, rfl, .ty b, tyx_of r1 ht, kit_ty (kitB_ty a (tyD_in ht) b hb), k _ _ H h (Ext.refl H) j (by simp only [Rep])⟩
    | none =>
      rw [ht] at h
      cases d with
      | ins C ks ds =>
        obtain ⟨hC, h⟩ := h
        have f := F.cls C hC
        simp only [Rep] at r1
        obtain ⟨a, dx, fs, rfl, ⟨e, _, _⟩, _⟩ := r1
        exact ⟨_, _, _, _, _, rfl, .ty b, .base (.ins e f.cl f.ha f.hn f.ht f.hm), F.tb C hC b hb, k _ _ H h (Ext.refl H) j (by simp only [Rep])⟩
      | _ => exact h.elim
  | obj C' =>
    obtain ⟨hb, h⟩ := h
    simp only [Rep] at r2
    subst r2
    cases ht : tyD d with
    | some a =>
      rw [ht] at h
      exact ⟨x, _, _, _, _, rfl, .own C', tyx_of r1 ht, F.bt C' hb a (tyD_in ht), k _ _ H h (Ext.refl H) j (by simp only [Rep])⟩
    | none =>
      rw [ht] at h
      cases d with
      | ins C ks ds =>
        obtain ⟨hC, h⟩ := h
        have f := F.cls C hC
        simp only [Rep] at r1
        obtain ⟨a, dx, fs, rfl, ⟨e, _, _⟩, _⟩ := r1
        exact ⟨_, _, _, _, _, rfl, .own C', .base (.ins e f.cl f.ha f.hn f.ht f.hm), F.cc C hC C' hb, k _ _ H h (Ext.refl H) j (by simp only [Rep])⟩
      | _ => exact h.elim
  | _ => exact h.elim
variable {a e : Expr} {es : List Expr} {te : TE} {me : DEnv → M D} {tr : TA} {mr : DEnv → M (List D)} {pp pos : Pos} {f x : Str}
theorem de_isi {CS : List Addr} (F : CSF z.K CS) (hK : X.K = z.K) (hm : X.mg "isinstance" = none) (ha : DA X z (a :: es) tr mr) (hg : Gl X "isinstance" := by rfl)
    (he : starEach (a :: es) X.env = (false, eval a X.env) :: starEach es X.env := by rfl) (hpl : (backTo pos (starEach es X.env)).any (·.1) = false := by rfl) :
    DE X z (.Call (.Name "isinstance" pp) (a :: es) [] pos) (tCB (rIsi z.K) tr) (fun ρ => bnd (mr ρ) (m2 (mIsi CS))) := de_cb (hK ▸ call_isi) (rmIsi F) hm rfl ha hg (by decide) (by decide) he hpl

/-! ### attributes -/
def getA (f : Str) : List Str → List D → Option D
  | k :: ks, d :: ds => if f = k then some d else getA f ks ds
  | _, _ => none
theorem getA_of {K : PySem.W.Frag} {U : Addr → Prop} {H : Hp} {f : Str} : ∀ {fs : List (Str × V)} {ds : List D} {d : D}, Reps K U H ds (fs.map (·.2)) → getA f (fs.map (·.1)) ds = some d → ∃ v, fs.lookup f = some v ∧ Rep K U H d v
  | [], ds, d, r, h => by simp [getA] at h
  | (k, v) :: fs, [], d, r, h => by simp [getA] at h
  | (k, v) :: fs, d' :: ds, d, r, h => by
    simp only [List.map_cons, Reps, List.cons.injEq] at r
    obtain ⟨_, _, ⟨rfl, rfl⟩, r1, r2⟩ := r
    simp only [List.map_cons, getA] at h
    by_cases q : f = k
    · rw [if_pos q] at h
      cases h
      exact ⟨v, by rw [List.lookup_cons, q]; simp, r1⟩
    · rw [if_neg q] at h
      obtain ⟨w, h1, h2⟩ := getA_of r2 h
      refine ⟨w, ?_, h2⟩
      rw [List.lookup_cons, show (f == k) = false by simp [q]]
      exact h1
abbrev mFld (CS : List Addr) (f : Str) (d : D) : M D := fun Q _ => match d with
  | .ins C ks ds => C ∈ CS ∧ (match getA f ks ds with | some v => Q v | none => False)
  | _ => False
/-- e.f, an attribute of its own -/
theorem de_fld {CS : List Addr} (F : ∀ C ∈ CS, Cls z.K C ∧ NoAttr z.K C f) (hK : X.K = z.K) (he : DE X z e te me) (hb : attributeBase e f X.env (eval e X.env) = eval e X.env := by rfl) : DE X z (.Attribute e f pos) (tFld X.K te f) (fun ρ => bnd (me ρ) (mFld CS f)) :=
  ⟨pe_fld he.pe hb, fun U σ H ρ Q Qd E w hE h k => he.tm U σ H ρ _ _ E w hE h fun d v H1 h1 e1 j1 r1 => by
    cases d with
    | ins C ks ds =>
      obtain ⟨hC, h1⟩ := h1
      simp only [Rep] at r1
      obtain ⟨p, dx, fs, rfl, ⟨q, nu, rfl⟩, rs⟩ := r1
      cases hg : getA f (fs.map (·.1)) ds with
      | none => rw [hg] at h1; exact h1.elim
      | some d =>
        rw [hg] at h1
        obtain ⟨w', l, r⟩ := getA_of rs hg
        obtain ⟨c, n⟩ := F C hC
        exact ⟨p, C, dx, fs, w', rfl, q, hK ▸ c, hK ▸ n, l, k d w' H1 h1 e1 j1 r⟩
    | _ => exact h1.elim⟩
/-- a getter of the class C that keeps a promise over data -/
def GP (P : Program) (w : World) (K : PySem.W.Frag) (mg : Str → Option Value) (base : Heap) (g : GG) (C : Addr) (f : Str) (k : Nat) (sp : FS) : Prop :=
  ∃ p fa fd ps, PropOf K C f p fa ∧ FnOk P w K mg base (L2.CX P w) k fa fd ps (spOf K g 1 sp) ∧ Binds K fd ps []
theorem de_prop {C : Addr} {k k' : Nat} {sp : FS} (F : GP X.prog X.w X.K X.mg X.base z.g C f k sp) (c : Cls X.K C) (hr : Room k' X.A) (hk : k + 1 ≤ k') (hK : X.K = z.K) (he : DE X z e te me) (hb : attributeBase e f X.env (eval e X.env) = eval e X.env := by rfl) :
    DE X z (.Attribute e f pos) (tProp C (spOf z.K z.g 1 sp) [] (fun _ _ _ => False) te) (fun ρ => bnd (me ρ) fun d Q E => (∃ ks ds, d = .ins C ks ds) ∧ sp [d] Q (fun _ => False)) := by
  obtain ⟨p, fa, fd, ps, h1, h2, h3⟩ := F
  refine ⟨?_, fun U σ H ρ Q Qd E w hE h k2 => he.tm U σ H ρ _ _ E w hE h fun d v H1 h1 e1 j1 r1 => ?_⟩
  · rw [← hK]
    exact pe_prop he.pe c h1 h2 (hr.mono hk) h3 .nil (passes_call (takes0 (X := X.nox)) fun _ _ _ _ h => h) hb
  · obtain ⟨⟨ks, ds, rfl⟩, h1⟩ := h1
    have r0 := r1
    simp only [Rep] at r1
    obtain ⟨a, dx, fs, rfl, ⟨q, _, _⟩, _⟩ := r1
    have w1 := w.step e1 j1
    exact ⟨a, dx, fs, rfl, q, rfl, U, _, Qd, _, w.gu, w1.dom, j1, Reps.cons r0 Reps.nil, h1, fun d v H' q e2 j2 r2 => k2 d v H' q (e1.trans e2) j2 r2, fun _ _ _ _ q => q.elim⟩

/-! ### an __init__ that stores one attribute last -/
/-- its promise: self, then the arguments; what is stored under f is told by spM -/
def spInit (K : PySem.W.Frag) (g : GG) (C : Addr) (f : Str) (n : Nat) (spM : FS) : Sp := fun vs H Q E => vs.length = n + 1 ∧ ∃ (x dx : Addr) (vs' : List V) (U : Addr → Prop) (ds : List D) (Qd : D → Prop) (Ed : DX → Prop), vs = .ref x :: vs' ∧ H x = some (.ins C dx []) ∧ ¬ g.G x ∧
  (∀ a, g.G a → U a) ∧ (∀ a, U a → H a ≠ none) ∧ U x ∧ g.J H ∧ Reps K U H ds vs' ∧ spM ds Qd Ed ∧
  (∀ d v H', Qd d → Ext g.G H H' → g.J H' → H' x = some (.ins C dx []) → Rep K U H' d v → Q .non (upd H' x (.ins C dx [(f, v)]))) ∧ ∀ ex cls dp H', Ed ex → Ext g.G H H' → g.J H' → RepX K U H' cls dp ex → E cls dp H'
/-- a list of statements that ends with the storing -/
structure DSl (X : Cx) (z : Zc) (O : List Nat) (x C dx : Addr) (f : Str) (sts : List Stmt) (ts : TS) (ml : (D → Prop) → (DX → Prop) → DEnv → Prop) : Prop where
  ps : PSs X sts ts
  tm : ∀ (oa : Nat → Addr) (σ : L2.St) (H : Hp) (ρ : DEnv) (Dn : Ends) (Qd : D → Prop) (E : DX → Prop), SO z O oa σ H ρ → (∀ x, E x → z.Ed x) → ml Qd E ρ →
    (∀ d v H' σ', Qd d → Ext z.g.G z.H0 H' → z.g.J H' → Rep z.K z.U0 H' d v → Dn.nx σ' (upd H' x (.ins C dx [(f, v)]))) → ts Dn σ H
variable {O : List Nat} {x' C dx : Addr} {st : Stmt} {sts : List Stmt} {t u : TS} {m : MS} {ml : (D → Prop) → (DX → Prop) → DEnv → Prop} {p1 p2 : Pos}
theorem dsl_cons (h1 : DS X z O st t m) (h2 : DSl X z O x' C dx f sts u ml) : DSl X z O x' C dx f (st :: sts) (tSeq t u) (fun Qd E ρ => m { nx := ml Qd E, rt := fun _ => False, bk := fun _ => False, ct := fun _ => False } E ρ) :=
  ⟨pss_cons h1.ps h2.ps, fun oa σ H ρ Dn Qd E s he hm k => h1.tm [] oa σ H ρ { Dn with nx := u Dn } { nx := ml Qd E, rt := fun _ => False, bk := fun _ => False, ct := fun _ => False } E s he ⟨fun oa' σ' H' ρ' s' q => h2.tm oa' σ' H' ρ' Dn Qd E s' he q k, fun _ _ _ q => q.elim, fun _ _ _ _ _ q => q.elim, fun _ _ _ _ _ q => q.elim⟩ hm⟩
theorem dsl_last {nm : Str} (hK : X.K = z.K) (h0 : z.H0 x' = some (.ins C dx [])) (ng : ¬ z.g.G x') (c : Cls X.K C) (na : NoAttr X.K C f) (he : DE X z e te me) (hs0 : DE X z (.Name nm p1) (tVar 0) (fun ρ => gv ρ 0))
    (hs : swapsWith e (some (.Attribute (.Name nm p1) f p2)) pos.line X.env = pure false := by rfl) :
    DSl X z O x' C dx f [.Assign [.Attribute (.Name nm p1) f p2] e pos] (sFld X.K (tVar 0) te f) (fun Qd E ρ => me ρ (fun d => gv ρ 0 (fun d0 => d0 = .obj x' ∧ Qd d) E) E) :=
  ⟨pss_one (ps_fld hs0.pe he.pe hs), fun oa σ H ρ Dn Qd E s hE hm k => he.tm z.U0 σ H ρ _ _ E s.full hE hm fun d v H1 h1 e1 j1 r1 => by
    have w1 := s.full.step e1 j1
    refine hs0.tm z.U0 σ H1 ρ _ _ E w1 hE h1 fun d0 v0 H2 h2 e2 j2 r2 => ?_
    obtain ⟨rfl, q⟩ := h2
    simp only [Rep] at r2
    subst r2
    have e3 := w1.ext.trans e2
    exact ⟨x', C, dx, [], rfl, e3 x' _ h0 ng, c, na, by simp, k d v H2 σ q e3 j2 (r1.ext e2 s.full.gu)⟩⟩
variable {P : Program} {w : World} {K : PySem.W.Frag} {mg : Str → Option Value} {base : Heap}
theorem init_okD {nm qual : Str} {st : Stmt} {fa : Addr} {fd : FuncData} {N ps : List Str} {k n : Nat} {g : GG} {spM : FS} (F : Fun K nm qual st fa fd) (S : FnScope N ps (defScope st)) (hn : ps.length = n + 1) (O : List Nat) {ml : Addr → (D → Prop) → (DX → Prop) → DEnv → Prop} (hO : ∀ i, i ∈ O → n + 1 ≤ i)
    (hb : ∀ (cdv : Value) (A : Around) (outer : List Env) (s : Shared) (H : Hp) (E : XK) (U : Addr → Prop) (Ed : DX → Prop) (x dx : Addr), Room k (A.deeper (envOfC qual (defScope st) s.heap.objs.size fa cdv)) → H x = some (.ins C dx []) → ¬ g.G x →
      ∃ ts, DSl (bCx P w K mg base N qual st fa cdv A outer s H E) (bZ K g U H Ed E) O x C dx f (defBody st) ts (ml x))
    (h : ∀ x ds Q E, ds.length = n → spM ds Q E → ml x Q E (startD N (.obj x :: ds))) : FnOk P w K mg base (L2.CX P w) (k + 1) fa fd ps (spInit K g C f n spM) := by
  refine F.okX S (fun vs H Q E h => h.1.trans hn.symm) fun cdv A outer s H vs Q E hr hsp => ?_
  obtain ⟨hl, x, dx, vs', U, ds, Qd, Ed, rfl, hx, ng, hG, hU, hUx, j, r, hf, hQ, hE⟩ := hsp
  obtain ⟨ts, d⟩ := hb cdv A outer s H E U Ed x dx hr hx ng
  have hds : ds.length = n := by
    have q := r.length
    simp only [List.length_cons] at hl
    omega
  have ok : (bZ K g U H Ed E).Ok := ⟨hG, hE⟩
  have so := so_start (z := bZ K g U H Ed E) (N := N) ok hU j (Reps.cons (d := .obj x) (x := .ref x) (by simp only [Rep]) r) (fun i hi => by rw [List.length_cons, hds]; exact hO i hi) rfl
  exact ⟨ts, d.ps, d.tm _ _ _ _ _ Qd Ed so (fun _ h => h) (h x ds Qd Ed hds hf) fun d v H' σ' q e1 j1 r1 => hQ d v H' q e1 j1 (e1 x _ hx ng) r1⟩
/-- a class whose __init__ keeps such a promise -/
def GM (P : Program) (w : World) (K : PySem.W.Frag) (mg : Str → Option Value) (base : Heap) (g : GG) (nm : Str) (C : Addr) (f : Str) (n k : Nat) (ps : List Str) (spM : FS) : Prop :=
  ∃ fa fd, mg nm = some (.ref C) ∧ Mk K C fa ∧ FnOk P w K mg base (L2.CX P w) k fa fd ps (spInit K g C f n spM) ∧ Binds K fd ps []
theorem made_tm {U : Addr → Prop} {σ : L2.St} {H : Hp} {ρ : DEnv} {Q : VK} {Qd : D → Prop} {E : DX → Prop} {n : Nat} {spM : FS} {ds : List D} {vs : List V} (w : WR z U σ H ρ) (hE : ∀ x, E x → z.Ed x) (r : Reps z.K U H ds vs) (hl : ds.length = n) (hm : spM ds (fun d => Qd (.ins C [f] [d])) E)
    (k : ∀ d v H', Qd d → Ext z.g.G H H' → z.g.J H' → Rep z.K U H' d v → Q v H') (hGx : ∀ H a φ, z.g.J H → z.g.G a → H a ≠ some (.ext φ)) :
    ∀ x dx, H x = none → H dx = none → dx ≠ x → spInit z.K z.g C f n spM (.ref x :: vs) (upd (upd H dx (.own x)) x (.ins C dx [])) (fun v H2 => v = .non ∧ Q (.ref x) H2) z.EK := fun x dx hx hdx ne => by
  have ngx : ¬ z.g.G x := fun q => z.g.dom H x w.j q hx
  have hx1 : upd H dx (.own x) x = none := by rw [upd_ne (Ne.symm ne)]; exact hx
  have j1 : z.g.J (upd (upd H dx (.own x)) x (.ins C dx [])) := z.g.new (z.g.new w.j hdx) hx1
  have nUx : ¬ U x := w.fresh hx
  have old : ∀ a o, H a = some o → upd (upd H dx (.own x)) x (.ins C dx []) a = some o := fun a o e => by rw [upd_ne (ne_of_none e hx), upd_ne (ne_of_none e hdx)]; exact e
  have r' : Reps z.K (fun a => U a ∨ a = x) (upd (upd H dx (.own x)) x (.ins C dx [])) ds vs := Reps.mono' (fun a o e n => ⟨old a o e, fun q => q.elim n fun q => by rw [q, hx] at e; cases e⟩) ds vs r
  have dm : ∀ a, U a ∨ a = x → upd (upd H dx (.own x)) x (.ins C dx []) a ≠ none := fun a q => by
    rcases q with q | q
    · cases e : H a with
      | none => exact absurd e (w.dom a q)
      | some o => rw [old a o e]; simp
    · rw [q, upd_same]; simp
  have ok : ∀ d v H', Qd (.ins C [f] [d]) → Ext z.g.G (upd (upd H dx (.own x)) x (.ins C dx [])) H' → z.g.J H' → H' x = some (.ins C dx []) → Rep z.K (fun a => U a ∨ a = x) H' d v → Q (.ref x) (upd H' x (.ins C dx [(f, v)])) := fun d v H' q e2 j2 hx2 r2 => by
    have eG : Ext z.g.G H (upd H' x (.ins C dx [(f, v)])) := fun a o e ng => by
      rw [upd_ne (ne_of_none e hx)]
      exact e2 a o (old a o e) ng
    refine k _ _ _ q eG (z.g.st H' _ j2 (fun a ha => upd_ne fun q => ngx (q ▸ ha)) fun a φ e => ?_) ?_
    · rw [upd_ne (fun q => by rw [q, hx2] at e; cases e)]; exact e
    · simp only [Rep]
      refine ⟨x, dx, [(f, v)], rfl, ⟨upd_same, nUx, rfl⟩, ?_⟩
      exact Reps.cons (Rep.mono' (fun a o e n => ⟨by rw [upd_ne fun q => n (.inr q)]; exact e, fun q => n (.inl q)⟩) d v r2) Reps.nil
  exact ⟨by simp [r.length, hl], x, dx, vs, fun a => U a ∨ a = x, ds, fun d => Qd (.ins C [f] [d]), E, rfl, upd_same, ngx, fun a q => .inl (w.gu a q), dm, .inr rfl, j1, r', hm, fun d v H' q e2 j2 hx2 r2 => ⟨rfl, ok d v H' q e2 j2 hx2 r2⟩,
    fun ex cls dp H' q e2 j2 r2 => w.ok.ek ex cls dp H' (hE ex q) (fun a o h ng => e2 a o (old a o (w.ext a o h ng)) ng) j2 (r2.less fun a h => .inl (w.u a h))⟩
abbrev mMake (C : Addr) (f : Str) (n : Nat) (spM : FS) (ds : List D) : M D := fun Q E => ds.length = n ∧ spM ds (fun d => Q (.ins C [f] [d])) E
/-- C(..) -/
theorem de_make {nm : Str} {n k k' : Nat} {ps : List Str} {spM : FS} (F : GM X.prog X.w X.K X.mg X.base z.g nm C f n k ps spM) (hr : Room k' X.A) (hk : k + 1 ≤ k') (tk : Takes X (fun c d _ H => z.EK c d H)) (hK : X.K = z.K) (hGx : ∀ H a φ, z.g.J H → z.g.G a → H a ≠ some (.ext φ)) (ha : DA X z (a :: es) tr mr)
    (hg : Gl X nm := by rfl) (hdb : (nm == ("__debug__" : Str)) = false := by decide) (he : starEach (a :: es) X.env = (false, eval a X.env) :: starEach es X.env := by rfl) (hpl : (backTo pos (starEach es X.env)).any (·.1) = false := by rfl) :
    DE X z (.Call (.Name nm pp) (a :: es) [] pos) (tMake C (spInit z.K z.g C f n spM) [] z.EK tr) (fun ρ => bnd (mr ρ) (mMake C f n spM)) := by
  obtain ⟨fa, fd, h1, h2, h3, h4⟩ := F
  refine ⟨?_, fun U σ H ρ Q Qd E w hE hm k2 => ha.tm U σ H ρ _ _ E w hE hm fun ds vs H1 hh e1 j1 r1 => ?_⟩
  · rw [← hK]
    exact pe_make h2 h3 (hr.mono hk) hg h1 h4 .nil (passes_call tk fun _ _ _ _ h => h) ha.pe hdb he hpl
  · simp only [List.append_nil]
    exact made_tm (w.step e1 j1) hE r1 hh.1 hh.2 (fun d v H' q e2 j2 r2 => k2 d v H' q (e1.trans e2) j2 r2) hGx
end
end DL

/-! DMore: and/or/not as values, chains, products of sequences, more built-in calls, stars, keywords, while; over data. -/
namespace DL
open PySem PySem.Spec PyProof.Rows L2
section
variable {X : Cx} {z : Zc} {a b c : Expr} {rest : List Expr} {ta tb tc : TE} {ma mb mc : DEnv → M D} {pos : Pos}
/-! ### and, or, not as values -/
theorem de_one {op : BoolOp} (h : DE X z a ta ma) : DE X z (.BoolOp op [a] pos) ta ma := ⟨pe_one h.pe, h.tm⟩
theorem de_and (ha : DE X z a ta ma) (hb : DE X z (.BoolOp .And (b :: rest) pos) tb mb) : DE X z (.BoolOp .And (a :: b :: rest) pos) (tAndV ta tb) (fun ρ => bnd (bnd (ma ρ) asB) fun q => if q = true then mb ρ else ret (.bl false)) :=
  ⟨pe_and ha.pe hb.pe, fun U σ H ρ Q Qd E w he h k => ha.tm U σ H ρ _ _ E w he h fun d v H1 h1 e1 j1 r1 => by
    cases d with
    | bl q =>
      simp only [Rep] at r1
      refine ⟨q, r1, ?_⟩
      cases q with
      | true => exact hb.tm U σ H1 ρ Q Qd E (w.step e1 j1) he h1 fun d v H2 h2 e2 j2 r2 => k d v H2 h2 (e1.trans e2) j2 r2
      | false => exact k _ _ H1 h1 e1 j1 rep_bl
    | _ => exact h1.elim⟩
theorem de_or (ha : DE X z a ta ma) (hb : DE X z (.BoolOp .Or (b :: rest) pos) tb mb) : DE X z (.BoolOp .Or (a :: b :: rest) pos) (tOrV ta tb) (fun ρ => bnd (bnd (ma ρ) asB) fun q => if q = true then ret (.bl true) else mb ρ) :=
  ⟨pe_or ha.pe hb.pe, fun U σ H ρ Q Qd E w he h k => ha.tm U σ H ρ _ _ E w he h fun d v H1 h1 e1 j1 r1 => by
    cases d with
    | bl q =>
      simp only [Rep] at r1
      refine ⟨q, r1, ?_⟩
      cases q with
      | false => exact hb.tm U σ H1 ρ Q Qd E (w.step e1 j1) he h1 fun d v H2 h2 e2 j2 r2 => k d v H2 h2 (e1.trans e2) j2 r2
      | true => exact k _ _ H1 h1 e1 j1 rep_bl
    | _ => exact h1.elim⟩
theorem de_not (ha : DE X z a ta ma) : DE X z (.UnaryOp .Not a pos) (tNotV ta) (fun ρ => bnd (bnd (ma ρ) asB) fun q => ret (.bl (!q))) :=
  ⟨pe_not ha.pe, fun U σ H ρ Q Qd E w he h k => ha.tm U σ H ρ _ _ E w he h fun d v H1 h1 e1 j1 r1 => by
    cases d with
    | bl q =>
      simp only [Rep] at r1
      exact ⟨q, r1, k _ _ H1 h1 e1 j1 rep_bl⟩
    | _ => exact h1.elim⟩
/-! ### a op b op c -/
theorem tm_chain {r r' : R2} {m m' : D → D → M D} (hr : RM2 z r m) (hr' : RM2 z r' m') (ha : TMe z ta ma) (hb : TMe z tb mb) (hc : TMe z tc mc) :
    TMe z (tChain r r' ta tb tc) (fun ρ => bnd (ma ρ) fun x => bnd (mb ρ) fun y => bnd (bnd (m x y) asB) fun q => if q = true then bnd (mc ρ) fun v => m' y v else ret (.bl false)) := fun U σ H ρ Q Qd E w he h k =>
  ha U σ H ρ _ _ E w he h fun d1 v1 H1 h1 e1 j1 r1 => hb U σ H1 ρ _ _ E (w.step e1 j1) he h1 fun d2 v2 H2 h2 e2 j2 r2 => by
    have w2 := (w.step e1 j1).step e2 j2
    refine hr U H2 d1 d2 v1 v2 _ _ E w2.gu w2.dom j2 (r1.ext e2 w.gu) r2 he h2 fun d v H3 q e3 j3 r3 => ?_
    cases d with
    | bl q' =>
      simp only [Rep] at r3
      refine ⟨q', r3, ?_⟩
      cases q' with
      | true =>
        have w3 := w2.step e3 j3
        exact hc U σ H3 ρ _ _ E w3 he q fun d4 v4 H4 h4 e4 j4 r4 => hr' U H4 d2 d4 v2 v4 Q Qd E w.gu (w3.step e4 j4).dom j4 ((r2.ext e3 w.gu).ext e4 w.gu) r4 he h4 fun d v H5 q5 e5 j5 r5 => k d v H5 q5 ((((e1.trans e2).trans e3).trans e4).trans e5) j5 r5
      | false => exact k _ _ H3 q ((e1.trans e2).trans e3) j3 rep_bl
    | _ => exact q.elim
variable {op op' : CmpOp} {r r' : R2} {m m' : D → D → M D}
theorem de_chain (ho : OpR X (compareOp op) r) (hr : RM2 z r m) (ho' : OpR X (compareOp op') r') (hr' : RM2 z r' m') (ha : DE X z a ta ma) (hb : DE X z b tb mb) (hc : DE X z c tc mc) (hm : lastMarks [op, op'] [b, c] = false := by with_unfolding_all rfl) :
    DE X z (.Compare a [op, op'] [b, c] pos) (tChain r r' ta tb tc) (fun ρ => bnd (ma ρ) fun x => bnd (mb ρ) fun y => bnd (bnd (m x y) asB) fun q => if q = true then bnd (mc ρ) fun v => m' y v else ret (.bl false)) := ⟨pe_chain ho ho' ha.pe hb.pe hc.pe hm, tm_chain hr hr' ha.tm hb.tm hc.tm⟩
theorem dt_chain (ho : OpR X (compareOp op) r) (hr : RM2 z r m) (ho' : OpR X (compareOp op') r') (hr' : RM2 z r' m') (ha : DE X z a ta ma) (hb : DE X z b tb mb) (hc : DE X z c tc mc) (hm : lastMarks [op, op'] [b, c] = false := by with_unfolding_all rfl) :
    DT X z (.Compare a [op, op'] [b, c] pos) (tTest (tChain r r' ta tb tc)) (fun ρ => bnd (bnd (ma ρ) fun x => bnd (mb ρ) fun y => bnd (bnd (m x y) asB) fun q => if q = true then bnd (mc ρ) fun v => m' y v else ret (.bl false)) asB) := ⟨pt_chain ho ho' ha.pe hb.pe hc.pe hm, tm_test (tm_chain hr hr' ha.tm hb.tm hc.tm)⟩
end

/-! ### a module's constant -/
def GK (K : PySem.W.Frag) (mg : Str → Option Value) (x : Str) (d : D) : Prop := ∃ v u, mg x = some u ∧ RelV v u ∧ ∀ U H, Rep K U H d v
theorem de_globE {X : Cx} {z : Zc} {K : PySem.W.Frag} {mg : Str → Option Value} {x : Str} {d : D} {pos : Pos} (h : GK K mg x d) (hK : z.K = K) (hm : X.mg = mg) (hg : Gl X x := by rfl) (hd : (x == ("__debug__" : Str)) = false := by decide) : DE X z (.Name x pos) (tC h.choose) (fun _ => ret d) := by
  subst hK hm
  exact ⟨pe_glob hg h.choose_spec.choose_spec.1 h.choose_spec.choose_spec.2.1 hd, fun U σ H ρ Q Qd E w he h' k => k d _ H h' (Ext.refl H) w.j (h.choose_spec.choose_spec.2.2 U H)⟩
theorem de_cls {X : Cx} {z : Zc} {x : Str} {C : Addr} {pos : Pos} (h : X.mg x = some (.ref C)) (hg : Gl X x := by rfl) (hd : (x == ("__debug__" : Str)) = false := by decide) : DE X z (.Name x pos) (tC (.ref C)) (fun _ => ret (.obj C)) := de_glob h rfl (fun _ _ _ => by simp only [Rep]) hg hd
/-! ### a comprehension's block by a look -/
def blkC (N : List Str) (sc scope : Scope) (own : List (Str × Nat)) : Bool :=
  decide (scope.kind = .function) && (scope.names.all fun y => decide (scope.names.lookup y.1 = some y.2)) && (own.all fun p => decide (N[p.2]? = some p.1)) &&
    (scope.names.all fun y => !decide (y.2 = .free) || (decide (sc.names.lookup y.1 = some .cell) || decide (sc.names.lookup y.1 = some .free))) &&
    (scope.names.all fun y => !(decide (y.2 = .local) || decide (y.2 = .cell)) || (decide (y.1 ∈ own.map (·.1)) || decide (y.1 ∉ N)))
theorem blk_of {N : List Str} {sc scope : Scope} {own : List (Str × Nat)} (h : blkC N sc scope own = true) : BlkOk N sc scope own := by
  unfold blkC at h
  simp only [Bool.and_eq_true, List.all_eq_true, decide_eq_true_eq, Bool.or_eq_true, Bool.not_eq_true', decide_eq_false_iff_not, Bool.or_eq_false_iff] at h
  obtain ⟨⟨⟨⟨h1, h2⟩, h3⟩, h4⟩, h5⟩ := h
  exact ⟨h1, h2, h3, fun y hy e => (h4 y hy).elim (fun q => absurd e q) id, fun y hy e => (h5 y hy).elim (fun q => e.elim (fun z => absurd z q.1) fun z => absurd z q.2) id⟩
/-! ### products -/
def strRep (x : Str) (k : Int) : Str := ⟨(List.replicate k.toNat x.cps).foldl (· ++ ·) #[]⟩
def rRepS : R2 := fun x y H Q => ∃ i k, x = .str i ∧ y = .int k ∧ 2 ≤ k ∧ k < 2 ^ 31 ∧ 0 < i.length ∧ i.length * k.toNat ≤ sizeLine ∧ Q (.str (strRep i k)) H
theorem rep_cps {α : Type} (a : Array α) (b : Array α) (n : Nat) : ((List.replicate n a).foldl (· ++ ·) b).size = b.size + a.size * n := by
  induction n generalizing b with
  | zero => simp
  | succ n ih =>
    rw [List.replicate_succ, List.foldl_cons, ih, Array.size_append, Nat.mul_succ]
    omega
theorem strRep_len (x : Str) (k : Int) : (strRep x k).length = x.length * k.toNat := by
  show ((List.replicate k.toNat x.cps).foldl (· ++ ·) #[]).size = x.cps.size * k.toNat
  rw [rep_cps]
  simp
theorem op_repS {X : Cx} : OpR X (binaryOp .Mult) rRepS := by
  intro pins s σ H x y v u Q I rx ry h
  obtain ⟨i, k, rfl, rfl, h2, h3, h0, hz, q⟩ := h
  obtain ⟨t, rfl⟩ := rx
  obtain ⟨t', rfl⟩ := ry
  have e1 : (k == 1 || i.length == 0) = false := by
    rw [Bool.or_eq_false_iff]
    exact ⟨beq_eq_false_iff_ne.mpr (by omega), beq_eq_false_iff_ne.mpr (by omega)⟩
  have hs : i.length * k.toNat ≤ sizeLine := hz
  rw [sizeLine_eq] at hz
  have hl : Builtin.Str.tooLong (i.length * k.toNat) = false := by
    unfold Builtin.Str.tooLong
    exact decide_eq_false (by omega)
  refine PySem.P.mul_str (by rw [decide_eq_false (by omega), decide_eq_false (by omega)]; rfl) (fun _ _ => ?_) (fun _ _ => hl) ?_
  · have h4 : i.length ≤ i.length * k.toNat := Nat.le_mul_of_pos_right _ (by omega)
    have h5 : (2 : Int) ^ 32 - 1 ≤ (2 ^ 63 - 1) / k := (Int.le_ediv_iff_mul_le (by omega)).mpr (by
      have : (2 ^ 32 - 1) * k ≤ (2 ^ 32 - 1) * 2 ^ 31 := Int.mul_le_mul_of_nonneg_left (by omega) (by decide)
      omega)
    omega
  · rw [if_neg (by omega), e1, if_neg Bool.false_ne_true]
    exact ⟨Nat.le_trans (Nat.le_of_eq (strRep_len i k)) hs, ⟨.str (strRep i k), H, I.tok _, ⟨_, rfl⟩, q⟩⟩
abbrev mMulD (a b : D) : M D := fun Q _ => match a, b with
  | .int i, .int j => MulOk i j ∧ Q (.int (i * j))
  | .str x, .int k => 2 ≤ k ∧ k < 2 ^ 31 ∧ 0 < x.length ∧ x.length * k.toNat ≤ sizeLine ∧ Q (.str (strRep x k))
  | .lst ds, .int k => 0 ≤ k ∧ k < 2 ^ 31 ∧ ds.length * k.toNat ≤ sizeLine ∧ Q (.lst (List.replicate k.toNat ds).flatten)
  | .tup ds, .int k => ds ≠ [] ∧ 2 ≤ k ∧ k ≤ 1000 ∧ ds.length ≤ 1000 ∧ Q (.tup (List.replicate k.toNat ds).flatten)
  | _, _ => False
abbrev rMulD (K : PySem.W.Frag) : R2 := fun x y H Q => rI MulOk (fun i j => .int (i * j)) x y H Q ∨ rRepS x y H Q ∨ rRep x y H Q ∨ rRepT K x y H Q
theorem opMulD {X : Cx} : OpR X (binaryOp .Mult) (rMulD X.K) := opMul.or (op_repS.or (op_rep.or op_repT))
theorem reps_rep {K : PySem.W.Frag} {U : Addr → Prop} {H : Hp} {ds : List D} {xs : List V} (r : Reps K U H ds xs) : ∀ n : Nat, Reps K U H (List.replicate n ds).flatten (List.replicate n xs).flatten
  | 0 => Reps.nil
  | n + 1 => by
    rw [List.replicate_succ, List.replicate_succ, List.flatten_cons, List.flatten_cons]
    exact r.append (reps_rep r n)
theorem rmMulD {z : Zc} : RM2 z (rMulD z.K) mMulD := fun U H a b x y Q Qd E gu hU j ra rb he h k => by
  match a, b, h with
  | .int i, .int l, h => exact .inl ⟨i, l, inv_int ra, inv_int rb, h.1, k _ _ H h.2 (Ext.refl H) j rep_int⟩
  | .str i, .int l, h => exact .inr (.inl ⟨i, l, inv_str ra, inv_int rb, h.1, h.2.1, h.2.2.1, h.2.2.2.1, k _ _ H h.2.2.2.2 (Ext.refl H) j rep_str⟩)
  | .lst d, .int l, h =>
    obtain ⟨p, xs, rfl, hp, r1⟩ := rep_lst_inv ra
    exact .inr (.inr (.inl ⟨p, l, xs, rfl, inv_int rb, hp.1, by omega, by omega, by rw [r1.length]; exact h.2.2.1, fun q hq => k _ _ _ h.2.2.2 (Ext.new hq) (z.g.new j hq) (rep_lst_new hU hq (reps_rep r1 _))⟩))
  | .tup d, .int l, h =>
    obtain ⟨p, xs, rfl, hp, r1⟩ := rep_tup_inv ra
    exact .inr (.inr (.inr ⟨p, l, xs, rfl, inv_int rb, hp.sq, fun e => h.1 (r1.nil_iff.mp e), h.2.1, h.2.2.1, by rw [r1.length]; exact h.2.2.2.1, fun q hq => k _ _ _ h.2.2.2.2 (Ext.new hq) (z.g.new j hq) (rep_tup_new hU hq (reps_rep r1 _))⟩))

/-! ### more built-in calls -/
section
variable {X : Cx} {z : Zc}
abbrev mSumD (d : D) : M D := fun Q _ => match d with
  | .lst ds => (match intsOf ds with | some ns => Q (.int ns.sum) | none => False)
  | .tup ds => (match intsOf ds with | some ns => Q (.int ns.sum) | none => False)
  | _ => False
abbrev mMaxD (d : D) : M D := fun Q _ => match d with
  | .lst ds => (match intsOf ds with | some ns => 0 < ns.length ∧ ∀ m, m ∈ ns → (∀ y, y ∈ ns → y ≤ m) → Q (.int m) | none => False)
  | _ => False
abbrev mMinD (d : D) : M D := fun Q _ => match d with
  | .lst ds => (match intsOf ds with | some ns => 0 < ns.length ∧ ∀ m, m ∈ ns → (∀ y, y ∈ ns → m ≤ y) → Q (.int m) | none => False)
  | _ => False
abbrev mSortI (d : D) : M D := fun Q _ => match d with
  | .lst ds => (match intsOf ds with | some ns => ∀ ns' : List Int, ns'.Perm ns → ns'.Pairwise (· ≤ ·) → Q (.lst (ns'.map D.int)) | none => False)
  | _ => False
abbrev mSortS (d : D) : M D := fun Q _ => match d with
  | .lst ds => (match strsOf ds with | some xs => xs.length < 64 ∧ ∀ ys : List Str, ys.Perm xs → sortedS ys = true → Q (.lst (ys.map D.str)) | none => False)
  | _ => False
abbrev mI2f (f : Int → Int → Int) (a b : D) : M D := fun Q _ => match a, b with | .int i, .int j => Q (.int (f i j)) | _, _ => False
theorem rmMax2 : RMn z (fun xs H Q => ∃ i j, xs = [.int i, .int j] ∧ Q (.int (if j > i then j else i)) H) (m2 (mI2f fun i j => if j > i then j else i)) := rmn2 fun U H a b x y Q Qd E gu hU j ra rb he h k => by
  match a, b, h with
  | .int i, .int l, h => exact ⟨i, l, by rw [inv_int ra, inv_int rb], k _ _ H h (Ext.refl H) j rep_int⟩
theorem rmMin2 : RMn z (fun xs H Q => ∃ i j, xs = [.int i, .int j] ∧ Q (.int (if j < i then j else i)) H) (m2 (mI2f fun i j => if j < i then j else i)) := rmn2 fun U H a b x y Q Qd E gu hU j ra rb he h k => by
  match a, b, h with
  | .int i, .int l, h => exact ⟨i, l, by rw [inv_int ra, inv_int rb], k _ _ H h (Ext.refl H) j rep_int⟩
def rLcm : List V → Hp → VK → Prop := fun vs H Q => ∃ a b : Int, vs = [.int a, .int b] ∧ a.natAbs < 2 ^ 64 ∧ b.natAbs < 2 ^ 64 ∧ Q (.int ((Nat.lcm a.natAbs b.natAbs : Nat) : Int)) H
theorem cr_lcm : CallR X (.builtin "math.lcm") rLcm := by
  intro pins s σ H vs us Q I r h
  obtain ⟨a, b, rfl, ha, hb, q⟩ := h
  obtain ⟨t, u, rfl⟩ := Vals.int2 r
  exact PySem.W.mc_lcm ha hb fun _ => ⟨.int _, H, I.tok _, ⟨_, rfl⟩, q⟩
abbrev mLcmD (a b : D) : M D := fun Q _ => match a, b with | .int i, .int j => i.natAbs < 2 ^ 64 ∧ j.natAbs < 2 ^ 64 ∧ Q (.int ((Nat.lcm i.natAbs j.natAbs : Nat) : Int)) | _, _ => False
theorem rmLcm : RMn z rLcm (m2 mLcmD) := rmn2 fun U H a b x y Q Qd E gu hU j ra rb he h k => by
  match a, b, h with
  | .int i, .int l, h => exact ⟨i, l, by rw [inv_int ra, inv_int rb], h.1, h.2.1, k _ _ H h.2.2 (Ext.refl H) j rep_int⟩
end

/-! ### sum, max, min of lists and tuples -/
section
variable {prog : Program} {w : World} {A : Around} {E : Value → Shared → Prop} {s : Shared} {l : Addr} {xs : Array (Int × Tok)} {Q : Value → Shared → Prop}
theorem iter_tup {Q : Value → Shared → Prop} (hl : s.heap.IsTuple l (intItems xs))
    (h : ∀ s₂ : Shared, s₂ = { s with heap := s.heap.push { cls := .type "tuple_iterator", data := .fields #[.ref l, .int 0 0] } } → (s₂.heap.IsTupleIter s.heap.objs.size l 0 ∧ s₂.heap.IsTuple l (intItems xs)) → (∀ b ∈ [s.heap.objs.size, l], b < s₂.heap.objs.size) → l ≠ s.heap.objs.size → Q (.ref s.heap.objs.size) s₂) :
    wpAny (model prog w) A (pyIter (.ref l)) Q E s := by
  obtain ⟨o, ho, _⟩ := id hl
  have lt : l < s.heap.objs.size := Heap.lt_size ho
  refine wpAny_pyIter_tuple hl (h _ rfl ⟨⟨_, Heap.get?_push_size _ rfl, rfl, rfl⟩, hl.at fun o e => Heap.get?_push_of_some _ e⟩ (fun b hb => ?_) (Nat.ne_of_lt lt))
  show b < (s.heap.push _).objs.size
  rw [Heap.size_push]
  simp only [List.mem_cons, List.not_mem_nil, or_false] at hb
  rcases hb with rfl | rfl
  · exact Nat.lt_succ_self _
  · exact Nat.lt_succ_of_lt lt
theorem old_tup {h' : Heap} (hk : ∀ b o, b ∉ [s.heap.objs.size] → (s.heap.push { cls := .type "tuple_iterator", data := .fields #[.ref l, .int 0 0] }).get? b = some o → h'.get? b = some o) : ∀ b o, s.heap.get? b = some o → h'.get? b = some o := fun b o e =>
  hk b o (fun hm => by
    rw [List.mem_singleton] at hm
    have lt := Heap.lt_size e
    rw [hm] at lt
    exact Nat.lt_irrefl _ lt) (Heap.get?_push_of_some _ e)
theorem max_tup (hh : A.handled = none) (hl : s.heap.IsTuple l (intItems xs)) (hne : 0 < xs.size)
    (h : ∀ v h' tk, (intItems xs)[argBest (fun i j => decide (numAt xs i > numAt xs j)) (xs.size - 1)]? = some v → (∀ b o, s.heap.get? b = some o → h'.get? b = some o) → Q v { s with heap := h', toks := tk }) : wpAny (model prog w) A (call (.builtin "max") [.ref l]) Q E s := by
  refine call_max_walk (iter_tup hl fun s2 e st fp ne => ?_)
  subst e
  exact ⟨_, _, _, _, _, _, _, rfl, Walks.tuple (A := A.in1) hh _ l ne (intItems xs), st, fp, by simpa [intItems] using hne, CmpOf.ints_gt (numAt xs) (fun _ _ => intItems_at), fun v h' tk hP hk => h v h' tk (by simpa [intItems] using hP) (old_tup hk)⟩
theorem min_tup (hh : A.handled = none) (hl : s.heap.IsTuple l (intItems xs)) (hne : 0 < xs.size)
    (h : ∀ v h' tk, (intItems xs)[argBest (fun i j => decide (numAt xs i < numAt xs j)) (xs.size - 1)]? = some v → (∀ b o, s.heap.get? b = some o → h'.get? b = some o) → Q v { s with heap := h', toks := tk }) : wpAny (model prog w) A (call (.builtin "min") [.ref l]) Q E s := by
  refine call_min_walk (iter_tup hl fun s2 e st fp ne => ?_)
  subst e
  exact ⟨_, _, _, _, _, _, _, rfl, Walks.tuple (A := A.in1) hh _ l ne (intItems xs), st, fp, by simpa [intItems] using hne, CmpOf.ints_lt (numAt xs) (fun _ _ => intItems_at), fun v h' tk hP hk => h v h' tk (by simpa [intItems] using hP) (old_tup hk)⟩
end
section
variable {X : Cx} {z : Zc}
abbrev rInts (K : PySem.W.Frag) (L T : Bool) (C : List Int → Prop) (R : List Int → Int → Prop) : List V → Hp → VK → Prop := fun vs H Q => ∃ (a : Addr) (ns : List Int), vs = [V.ref a] ∧ ((L = true ∧ SqL K H a (ns.map V.int)) ∨ (T = true ∧ SqT K H a (ns.map V.int))) ∧ C ns ∧ ∀ m, R ns m → Q (.int m) H
abbrev isMax (ns : List Int) (m : Int) : Prop := m ∈ ns ∧ ∀ y, y ∈ ns → y ≤ m
abbrev isMin (ns : List Int) (m : Int) : Prop := m ∈ ns ∧ ∀ y, y ∈ ns → m ≤ y
abbrev rSumD (K : PySem.W.Frag) := rInts K true true (fun _ => True) fun ns m => m = ns.sum
abbrev rMaxD (K : PySem.W.Frag) := rInts K true true (fun ns => 0 < ns.length) isMax
abbrev rMinD (K : PySem.W.Frag) := rInts K true true (fun ns => 0 < ns.length) isMin
theorem crSum (hc : X.calm = true) : CallR X (.builtin "sum") (rSumD X.K) := by
  intro pins s σ H vs us Q I r h
  obtain ⟨a, ns, rfl, hs, _, q⟩ := h
  rcases hs with ⟨_, hs⟩ | ⟨_, hs⟩
  · exact cr_sum hc pins s σ H _ us Q I r ⟨a, ns, rfl, hs, q _ rfl⟩
  · obtain ⟨its, rv, hl, _⟩ := I.tuple hs
    rw [Vals.ref1 r]
    have hi := rv.ints
    obtain ⟨xs, e⟩ := hi.allInts.items
    have hn : numsOf (intItems xs).toList = ns := by rw [← e]; exact hi.numsOf
    rw [nums_intItems] at hn
    rw [e] at hl
    refine PySem.W.ktm_sumG (I.ok.hd hc) hl fun h' tk t' hk => ⟨.int ns.sum, H, I.kept hk, ⟨t', ?_⟩, q _ rfl⟩
    rw [preSum_eq, List.take_of_length_le (by simp), hn]
theorem crMax (hc : X.calm = true) : CallR X (.builtin "max") (rMaxD X.K) := by
  intro pins s σ H vs us Q I r h
  obtain ⟨a, ns, rfl, hs, hne, q⟩ := h
  rcases hs with ⟨_, hs⟩ | ⟨_, hs⟩
  · exact cr_max hc pins s σ H _ us Q I r ⟨a, ns, rfl, hs, hne, fun m h1 h2 => q m ⟨h1, h2⟩⟩
  · obtain ⟨its, rv, hl, _⟩ := I.tuple hs
    rw [Vals.ref1 r]
    have hi := rv.ints
    obtain ⟨xs, e⟩ := hi.allInts.items
    have hn : numsOf (intItems xs).toList = ns := by rw [← e]; exact hi.numsOf
    rw [nums_intItems] at hn
    subst hn
    rw [e] at hl
    have hsz : 0 < xs.size := by simpa using hne
    refine max_tup (I.ok.hd hc) hl hsz fun v h' tk hv hk => ?_
    obtain ⟨t, rfl⟩ := intItems_at hv
    obtain ⟨h1, h2⟩ := argBest_gt (numAt xs) (xs.size - 1)
    refine ⟨.int _, H, I.kept hk, ⟨_, rfl⟩, q _ ⟨?_, fun y hy => ?_⟩⟩
    · rw [numAt_eq]; exact PySem.getD_mem (by rw [List.length_map, Array.length_toList]; omega)
    · obtain ⟨j, hj, rfl⟩ := mem_getD hy
      rw [List.length_map, Array.length_toList] at hj
      rw [← numAt_eq]; exact h2 j (by omega)
theorem crMin (hc : X.calm = true) : CallR X (.builtin "min") (rMinD X.K) := by
  intro pins s σ H vs us Q I r h
  obtain ⟨a, ns, rfl, hs, hne, q⟩ := h
  rcases hs with ⟨_, hs⟩ | ⟨_, hs⟩
  · exact cr_min hc pins s σ H _ us Q I r ⟨a, ns, rfl, hs, hne, fun m h1 h2 => q m ⟨h1, h2⟩⟩
  · obtain ⟨its, rv, hl, _⟩ := I.tuple hs
    rw [Vals.ref1 r]
    have hi := rv.ints
    obtain ⟨xs, e⟩ := hi.allInts.items
    have hn : numsOf (intItems xs).toList = ns := by rw [← e]; exact hi.numsOf
    rw [nums_intItems] at hn
    subst hn
    rw [e] at hl
    have hsz : 0 < xs.size := by simpa using hne
    refine min_tup (I.ok.hd hc) hl hsz fun v h' tk hv hk => ?_
    obtain ⟨t, rfl⟩ := intItems_at hv
    obtain ⟨h1, h2⟩ := argBest_lt (numAt xs) (xs.size - 1)
    refine ⟨.int _, H, I.kept hk, ⟨_, rfl⟩, q _ ⟨?_, fun y hy => ?_⟩⟩
    · rw [numAt_eq]; exact PySem.getD_mem (by rw [List.length_map, Array.length_toList]; omega)
    · obtain ⟨j, hj, rfl⟩ := mem_getD hy
      rw [List.length_map, Array.length_toList] at hj
      rw [← numAt_eq]; exact h2 j (by omega)
def seqInts (d : D) : Option (List Int) := match d with
  | .lst ds => intsOf ds
  | .tup ds => intsOf ds
  | _ => none
abbrev mInts (C : List Int → Prop) (R : List Int → Int → Prop) (d : D) : M D := fun Q _ => match seqInts d with
  | some ns => C ns ∧ ∀ m, R ns m → Q (.int m)
  | none => False
abbrev mSum : D → M D := mInts (fun _ => True) fun ns m => m = ns.sum
abbrev mMax : D → M D := mInts (fun ns => 0 < ns.length) isMax
abbrev mMin : D → M D := mInts (fun ns => 0 < ns.length) isMin
theorem rmInts {C : List Int → Prop} {R : List Int → Int → Prop} : RMn z (rInts z.K true true C R) (m1 (mInts C R)) := rmn1 fun U H a x Q Qd E gu hU j ra he h k => by
  cases e : seqInts a with
  | none => simp only [mInts, e] at h
  | some ns =>
    simp only [mInts, e] at h
    cases a with
    | lst ds =>
      have := intsOf_eq e
      subst this
      obtain ⟨p, xs, rfl, hp, r⟩ := rep_lst_inv ra
      have := reps_ints r
      subst this
      exact ⟨p, ns, rfl, .inl ⟨rfl, SqL.of hp.1⟩, h.1, fun m hm => k _ _ H (h.2 m hm) (Ext.refl H) j rep_int⟩
    | tup ds =>
      have := intsOf_eq e
      subst this
      obtain ⟨p, xs, rfl, hp, r⟩ := rep_tup_inv ra
      have := reps_ints r
      subst this
      exact ⟨p, ns, rfl, .inr ⟨rfl, hp.sq⟩, h.1, fun m hm => k _ _ H (h.2 m hm) (Ext.refl H) j rep_int⟩
    | _ => simp [seqInts] at e
/-! ### sorted -/
theorem rmSortI : RMn z (rSortedI z.K) (m1 mSortI) := rmn1 fun U H a x Q Qd E gu hU j ra he h k => by
  cases a with
  | lst ds =>
    cases e : intsOf ds with
    | none => simp only [mSortI, e] at h
    | some ns =>
      simp only [mSortI, e] at h
      have := intsOf_eq e
      subst this
      obtain ⟨p, xs, rfl, hp, r⟩ := rep_lst_inv ra
      have := reps_ints r
      subst this
      exact ⟨p, ns, rfl, SqL.of hp.1, fun ns' q h1 h2 hq => k _ _ _ (h ns' h1 h2) (Ext.new hq) (z.g.new j hq) (rep_lst_new hU hq reps_of_ints)⟩
  | _ => exact h.elim
theorem rmSortS : RMn z (rSortedS z.K) (m1 mSortS) := rmn1 fun U H a x Q Qd E gu hU j ra he h k => by
  cases a with
  | lst ds =>
    cases e : strsOf ds with
    | none => simp only [mSortS, e] at h
    | some ns =>
      simp only [mSortS, e] at h
      have := strsOf_eq e
      subst this
      obtain ⟨p, xs, rfl, hp, r⟩ := rep_lst_inv ra
      have := reps_strs r
      subst this
      exact ⟨p, ns, rfl, SqL.of hp.1, h.1, fun ns' q h1 h2 hq => k _ _ _ (h.2 ns' h1 h2) (Ext.new hq) (z.g.new j hq) (rep_lst_new hU hq reps_of_strs)⟩
  | _ => exact h.elim
/-! ### stars, split, keywords, while -/
variable {a e : Expr} {es : List Expr} {ta te tb : TE} {ma me : DEnv → M D} {tr : TA} {mr : DEnv → M (List D)} {pp pos p : Pos}
abbrev asSeq (d : D) : M (List D) := fun Q _ => match d with | .tup ds => Q ds | .lst ds => Q ds | _ => False
theorem da_star (hK : X.K = z.K) (ha : DE X z a ta ma) (hr : DA X z es tr mr) (hs : starEach (.Starred a p :: es) X.env = (true, eval a X.env) :: starEach es X.env := by rfl) :
    DA X z (.Starred a p :: es) (StX.tStar X.K ta tr) (fun ρ => bnd (bnd (ma ρ) asSeq) fun xs => bnd (mr ρ) fun ys => ret (xs ++ ys)) :=
  ⟨StX.pa_star ha.pe hr.pe hs, fun U σ H ρ Q Qd E w he h k => ha.tm U σ H ρ _ _ E w he h fun d v H1 h1 e1 j1 r1 => by
    rw [hK]
    cases d with
    | tup ds =>
      obtain ⟨q, xs, rfl, hp, r⟩ := rep_tup_inv r1
      exact ⟨q, xs, rfl, .inl hp.sq, hr.tm U σ H1 ρ _ _ E (w.step e1 j1) he h1 fun ds' vs H2 h2 e2 j2 r2 => k _ _ H2 h2 (e1.trans e2) j2 ((r.ext e2 w.gu).append r2)⟩
    | lst ds =>
      obtain ⟨q, xs, rfl, hp, r⟩ := rep_lst_inv r1
      exact ⟨q, xs, rfl, .inr (SqL.of hp.1), hr.tm U σ H1 ρ _ _ E (w.step e1 j1) he h1 fun ds' vs H2 h2 e2 j2 r2 => k _ _ H2 h2 (e1.trans e2) j2 ((r.ext e2 w.gu).append r2)⟩
    | _ => exact h1.elim⟩
end

section
variable {X : Cx} {z : Zc} {a e o : Expr} {es : List Expr} {to ta te tb : TE} {mo ma me : DEnv → M D} {tr tk : TA} {mr mk : DEnv → M (List D)} {pp pos apos p : Pos}
abbrev mSplit (a b : D) : M D := fun Q _ => match a, b with
  | .str x, .str y => (y.length == 0) = false ∧ x.length + 2 ≤ sizeLine ∧ Q (.lst ((Txt.split x y).map D.str))
  | _, _ => False
/-- x.split(y) -/
theorem de_split (ho : DE X z o to mo) (he : DE X z e te me) (hs : starEach [e] X.env = [(false, eval e X.env)] := by rfl) (hbase : attributeBase o "split" X.env (eval o X.env) = eval o X.env := by rfl) (hline : (apos.endLine == pos.line) = true := by rfl) :
    DE X z (.Call (.Attribute o "split" apos) [e] [] pos) (tM1 (fun x xs H Q => ∃ a b, x = .str a ∧ xs = [.str b] ∧ (b.length == 0) = false ∧ a.length + 2 ≤ sizeLine ∧ rNewStrs (Txt.split a b) H Q) to te) (fun ρ => bnd (mo ρ) fun x => fun Q E => (∃ a, x = .str a) ∧ me ρ (fun y => mSplit x y Q E) E) :=
  ⟨pe_split ho.pe he.pe hs hbase hline, fun U σ H ρ Q Qd E w hE h k => ho.tm U σ H ρ _ _ E w hE h fun d v H1 h1 e1 j1 r1 => by
    obtain ⟨⟨x, rfl⟩, h1⟩ := h1
    refine ⟨⟨x, inv_str r1⟩, he.tm U σ H1 ρ _ _ E (w.step e1 j1) hE h1 fun d2 v2 H2 h2 e2 j2 r2 => ?_⟩
    cases d2 with
    | str y => exact ⟨x, y, inv_str r1, by rw [inv_str r2], h2.1, h2.2.1, fun q hq => k _ _ _ h2.2.2 ((e1.trans e2).trans (Ext.new hq)) (z.g.new j2 hq) (rep_lst_new ((w.step e1 j1).step e2 j2).dom hq reps_of_strs)⟩
    | _ => exact h2.elim⟩
/-! ### keywords -/
structure DKw (X : Cx) (z : Zc) (kws : List Keyword) (tk : TA) (mk : DEnv → M (List D)) : Prop where
  pk : PK X kws tk
  tm : TMa z tk mk
variable {kws : List Keyword} {nm : Option Str} {kpos : Pos}
theorem dk_nil : DKw X z [] tNil (fun _ => ret []) := ⟨pk_nil, da_nil (X := X).tm⟩
theorem dk_cons (ha : DE X z a ta ma) (hr : DKw X z kws tk mk) : DKw X z (⟨nm, a, kpos⟩ :: kws) (tCons ta tk) (fun ρ => bnd (ma ρ) fun x => bnd (mk ρ) fun xs => ret (x :: xs)) :=
  ⟨pk_cons ha.pe hr.pk, fun U σ H ρ Q Qd E w he h k => ha.tm U σ H ρ _ _ E w he h fun d v H1 h1 e1 j1 r1 => hr.tm U σ H1 ρ _ _ E (w.step e1 j1) he h1 fun ds vs H2 h2 e2 j2 r2 => k _ _ H2 h2 (e1.trans e2) j2 (Reps.cons (r1.ext e2 w.gu) r2)⟩
/-- the keywords' values in the parameters' order: the parameter i is the keyword is[i] -/
def permL {α : Type} (is : List Nat) (l : List α) : List α := is.filterMap fun i => l[i]?
theorem vals_perm {vs : List V} {us : List Value} (r : Vals vs us) : ∀ is : List Nat, Vals (permL is vs) (permL is us)
  | [] => .nil
  | i :: is => by
    unfold permL
    rw [List.filterMap_cons, List.filterMap_cons]
    cases e : vs[i]? with
    | none =>
      have e2 : us[i]? = none := by
        rw [List.getElem?_eq_none_iff] at e ⊢
        rw [← r.length]
        exact e
      rw [e2]
      exact vals_perm r is
    | some v =>
      obtain ⟨u, hu, rv⟩ := r.get e
      rw [hu]
      exact .cons rv (vals_perm r is)
theorem reps_perm {K : PySem.W.Frag} {U : Addr → Prop} {H : Hp} {ds : List D} {vs : List V} (r : Reps K U H ds vs) : ∀ is : List Nat, Reps K U H (permL is ds) (permL is vs)
  | [] => Reps.nil
  | i :: is => by
    unfold permL
    rw [List.filterMap_cons, List.filterMap_cons]
    cases e : ds[i]? with
    | none =>
      have e2 : vs[i]? = none := by
        rw [List.getElem?_eq_none_iff] at e ⊢
        rw [r.length]
        exact e
      rw [e2]
      exact reps_perm r is
    | some d =>
      obtain ⟨v, hv, rv⟩ := r.getD e
      rw [hv]
      exact Reps.cons rv (reps_perm r is)
/-- how a call by keywords alone binds (behind the values first) -/
def KwB (K : PySem.W.Frag) (fd : FuncData) (ps ks : List Str) (n : Nat) (is : List Nat) : Prop := ∀ (s : Shared) (us ws : List Value), K.In s.heap → us.length = n → ws.length = ks.length → BindsTo s fd ⟨us, ks.zip ws⟩ (ps.zip (us ++ permL is ws))
def GFk (P : Program) (w : World) (K : PySem.W.Frag) (mg : Str → Option Value) (base : Heap) (g : GG) (x : Str) (n k : Nat) (ks : List Str) (is : List Nat) (sp : FS) : Prop :=
  ∃ f fd ps, mg x = some (.ref f) ∧ PySem.W.keepIn K (.ref f) = true ∧ FnOk P w K mg base (L2.CX P w) k f fd ps (spOf K g n sp) ∧ KwB K fd ps ks 0 is
def tCallKw (K : PySem.W.Frag) (g : GG) (n m : Nat) (is : List Nat) (sp : FS) (E : XK) (tk : TA) : TE := fun σ H Q => tk σ H fun zs H2 => zs.length = m ∧ spOf K g n sp (permL is zs) H2 Q E
theorem de_callkw {x : Str} {n k k' : Nat} {ks : List Str} {is : List Nat} {sp : FS} (F : GFk X.prog X.w X.K X.mg X.base z.g x n k ks is sp) (hr : Room k' X.A) (hk : k ≤ k') (tkk : Takes X (fun c d _ H => z.EK c d H)) (hK : X.K = z.K) (ha : DKw X z kws tk mk) (hg : Gl X x := by rfl)
    (hall : (backToKw pos (keywordEach kws X.env)).all (·.1.isSome) = true := by rfl) (hks : (backToKw pos (keywordEach kws X.env)).filterMap (·.1) = ks := by rfl) (hdb : (x == ("__debug__" : Str)) = false := by decide)
    (hpl : ((backTo pos (starEach [] X.env)).any (·.1) || (backToKw pos (keywordEach kws X.env)).any (·.1.isNone)) = false := by rfl) :
    DE X z (.Call (.Name x pp) [] kws pos) (tCallKw z.K z.g n ks.length is sp z.EK tk) (fun ρ => bnd (mk ρ) fun ds Q E => ds.length = ks.length ∧ mCall n sp (permL is ds) Q E) := by
  obtain ⟨f, fd, ps, h1, h2, h3, h4⟩ := F
  refine ⟨⟨fun pins s σ H Q I h => ?_⟩, fun U σ H ρ Q Qd E w he hm k => ?_⟩
  · refine wpAny_Call_Name_kw (ld_glob I hg h1 ?_ hdb)
    refine PySem.W.callWith_KW0 (h₀ := X.base) I.ok.mod.kin h2 hall ?_ hpl
    refine thn (ha.pk.run pos pins s σ H _ I h) fun ws s2 hw => ⟨?_, ?_⟩
    · obtain ⟨zs, H2, I2, rz, l, q⟩ := hw
      exact I2.kIn
    · obtain ⟨zs, H2, I2, rz, l, q⟩ := hw
      rw [← hK] at q
      rw [hks]
      have hl : ws.length = ks.length := rz.length.symm.trans l
      refine wpAny_call (codeAny_mono (h3.run X.A X.stack s2 H2 ⟨[], ks.zip ws⟩ (permL is ws) (permL is zs) Q z.EK (hr.mono hk) I2.env0 (h4 s2 [] ws I2.kIn rfl hl) (vals_perm rz is) q) fun res s3 hq => ?_)
      match res, hq with
      | .error e, hq => exact passes_call tkk (fun _ _ _ _ h => h) pins σ H2 s2 e s3 I2 hq
      | .ok (.ret u), hq => exact I2.after hq
      | .ok .next, hq => exact False.elim hq
      | .ok .brk, hq => exact False.elim hq
      | .ok .cont, hq => exact False.elim hq
  · refine ha.tm U σ H ρ _ _ E w he hm fun ds vs H1 h1 e1 j1 r1 => ?_
    have w1 := w.step e1 j1
    have r2 := reps_perm r1 is
    exact ⟨r1.length.trans h1.1, r2.length.trans h1.2.1, U, _, Qd, E, w.gu, w1.dom, j1, r2, h1.2.2, fun d v H' q e2 j2 r2 => k d v H' q (e1.trans e2) j2 r2, fun x cls dp H' q e2 j2 r2 => w.ok.ek x cls dp H' (he x q) (w1.ext.trans e2) j2 (r2.less w.u)⟩
/-- C(k = v, ..) -/
def GMk (P : Program) (w : World) (K : PySem.W.Frag) (mg : Str → Option Value) (base : Heap) (g : GG) (nm : Str) (C : Addr) (f : Str) (n k : Nat) (ks : List Str) (is : List Nat) (ps : List Str) (spM : FS) : Prop :=
  ∃ fa fd, mg nm = some (.ref C) ∧ Mk K C fa ∧ FnOk P w K mg base (L2.CX P w) k fa fd ps (spInit K g C f n spM) ∧ KwB K fd ps ks 1 is
theorem de_makekw {nm : Str} {C : Addr} {f : Str} {n k k' : Nat} {ks : List Str} {is : List Nat} {ps : List Str} {spM : FS} (F : GMk X.prog X.w X.K X.mg X.base z.g nm C f n k ks is ps spM) (hr : Room k' X.A) (hk : k + 1 ≤ k') (tkk : Takes X (fun c d _ H => z.EK c d H)) (hK : X.K = z.K) (hGx : ∀ H a φ, z.g.J H → z.g.G a → H a ≠ some (.ext φ)) (ha : DKw X z kws tk mk)
    (hg : Gl X nm := by rfl) (hall : (backToKw pos (keywordEach kws X.env)).all (·.1.isSome) = true := by rfl) (hks : (backToKw pos (keywordEach kws X.env)).filterMap (·.1) = ks := by rfl) (hdb : (nm == ("__debug__" : Str)) = false := by decide)
    (hpl : ((backTo pos (starEach [] X.env)).any (·.1) || (backToKw pos (keywordEach kws X.env)).any (·.1.isNone)) = false := by rfl) :
    DE X z (.Call (.Name nm pp) [] kws pos) (tMakeK C 0 ks.length (spInit z.K z.g C f n spM) (fun vs zs => vs ++ permL is zs) z.EK tNil tk) (fun ρ => bnd (mk ρ) fun ds Q E => ds.length = ks.length ∧ mMake C f n spM (permL is ds) Q E) := by
  obtain ⟨fa, fd, h1, h2, h3, h4⟩ := F
  refine ⟨?_, fun U σ H ρ Q Qd E w hE hm k2 => ?_⟩
  · rw [← hK]
    exact pe_makeK0 h2 h3 (hr.mono hk) hg h1 (g := fun us ws => us ++ permL is ws) ⟨fun s us ws hin l1 l2 => h4 s us ws hin l1 l2, fun r1 r2 => r1.append (vals_perm r2 is)⟩ (passes_call tkk fun _ _ _ _ h => h) ha.pk hall hks hdb hpl
  · refine ha.tm U σ H ρ _ _ E w hE hm fun ds vs H1 h1 e1 j1 r1 => ⟨rfl, r1.length.trans h1.1, ?_⟩
    exact made_tm (w.step e1 j1) hE (reps_perm r1 is) h1.2.1 h1.2.2 (fun d v H' q e2 j2 r2 => k2 d v H' q (e1.trans e2) j2 r2) hGx
/-! ### while -/
variable {O : List Nat} {c : Expr} {body : List Stmt} {tc : TT} {mc : DEnv → M Bool} {tB : TS} {mB : MS}
def whW (mc : DEnv → M Bool) (mB : MS) : MS := fun κ E ρ => ∃ Pv : Nat → DEnv → Prop, (∃ m, Pv m ρ) ∧ ∀ m ρ, Pv m ρ → mc ρ (fun b => if b = true then ∃ N : DEnv → Prop, (∀ ρ', N ρ' → ∃ m', m' < m ∧ Pv m' ρ') ∧ mB { nx := N, rt := κ.rt, bk := κ.nx, ct := N } E ρ else κ.nx ρ) E
theorem ds_while (hp : PassesOwn (model X.prog X.w) X.A X.env X.xe) (hc : DT X z c tc mc) (hb : DSs X z O body tB mB) : DS X z O (.While c body [] pos) (tWhile tc tB) (whW mc mB) := ⟨ps_while hp hc.pe hb.ps, fun kp oa σ H ρ Dn κ E s hE ko hm => by
  obtain ⟨Pv, ⟨m0, h0⟩, turn⟩ := hm
  refine ⟨fun m σ H => ∃ oa ρ, SO (z.keep kp) O oa σ H ρ ∧ Pv m ρ, ⟨m0, oa, ρ, s, h0⟩, fun m σ H hw => ?_⟩
  obtain ⟨oa, ρ, s, h1⟩ := hw
  refine (hc.tm.keep kp) z.U0 σ H ρ _ _ E s.full hE (turn m ρ h1) fun b H1 hb1 e1 j1 => ?_
  have s1 := s.step e1 j1
  cases b with
  | true =>
    obtain ⟨N, hN, hb2⟩ := hb1
    refine ⟨fun σ' H' => ∃ oa ρ, SO (z.keep kp) O oa σ' H' ρ ∧ N ρ, fun σ' H' q => ?_, hb.tm kp oa σ H1 ρ _ { nx := N, rt := κ.rt, bk := κ.nx, ct := N } E s1 hE ⟨fun oa' σ' H' ρ' s' q => ⟨oa', ρ', s', q⟩, ko.rt, ko.nx, fun oa' σ' H' ρ' s' q => ⟨oa', ρ', s', q⟩⟩ hb2⟩
    obtain ⟨oa', ρ', s', q⟩ := q
    obtain ⟨m', hlt, q'⟩ := hN ρ' q
    exact ⟨m', hlt, oa', ρ', s', q'⟩
  | false => exact ko.nx oa σ H1 ρ s1 hb1⟩
end
end DL

/-! DDict: dicts with numbers or texts as keys: a def's own ones are stored into; several names at once by a tuple. -/
namespace DL
open PySem PySem.Spec PyProof.Rows L2
theorem two_small : 2 ≤ sizeLine := by rw [sizeLine_eq]; decide
/-! ### tables of pairs -/
def getP {α : Type} : List (Key × α) → Key → Option α
  | [], _ => none
  | p :: r, k => if p.1 = k then some p.2 else getP r k
def hasP {α : Type} : List (Key × α) → Key → Bool
  | [], _ => false
  | p :: r, k => decide (p.1 = k) || hasP r k
def putP {α : Type} (kvs : List (Key × α)) (k : Key) (v : α) : List (Key × α) := if hasP kvs k = true then kvs.map (fun p => (p.1, if p.1 = k then v else p.2)) else kvs ++ [(k, v)]
def dictD (kvs : List (Key × D)) : D := .dK (kvs.map (·.1)) (kvs.map (·.2))
theorem zip_back {α : Type} : ∀ kvs : List (Key × α), (kvs.map (·.1)).zip (kvs.map (·.2)) = kvs
  | [] => rfl
  | p :: r => by simp only [List.map_cons, List.zip_cons_cons, zip_back r]
theorem has_get {α : Type} {k : Key} : ∀ {kvs : List (Key × α)}, hasP kvs k = (getP kvs k).isSome
  | [] => rfl
  | p :: r => by
    unfold hasP getP
    by_cases e : p.1 = k
    · rw [if_pos e, decide_eq_true e]; rfl
    · rw [if_neg e, decide_eq_false e, Bool.false_or, has_get]
theorem get_map {α : Type} {k j : Key} {v : α} : ∀ {kvs : List (Key × α)}, getP (kvs.map fun p => (p.1, if p.1 = k then v else p.2)) j = (getP kvs j).map fun x => if j = k then v else x
  | [] => rfl
  | p :: r => by
    rw [List.map_cons]
    unfold getP
    by_cases e : p.1 = j
    · rw [if_pos e, if_pos e, Option.map_some, e]
    · rw [if_neg e, if_neg e, get_map]
theorem get_snoc {α : Type} {k j : Key} {v : α} : ∀ {kvs : List (Key × α)}, getP (kvs ++ [(k, v)]) j = match getP kvs j with | some x => some x | none => if k = j then some v else none
  | [] => by simp [getP]
  | p :: r => by
    rw [List.cons_append]
    unfold getP
    by_cases e : p.1 = j
    · rw [if_pos e, if_pos e]
    · rw [if_neg e, if_neg e, get_snoc]
theorem get_put {α : Type} {k j : Key} {v : α} {kvs : List (Key × α)} : getP (putP kvs k v) j = if j = k then some v else getP kvs j := by
  unfold putP
  by_cases h : hasP kvs k = true
  · rw [if_pos h, get_map]
    by_cases e : j = k
    · subst e
      rw [has_get] at h
      rw [if_pos rfl]
      obtain ⟨x, hx⟩ := Option.isSome_iff_exists.mp h
      rw [hx, Option.map_some, if_pos rfl]
    · rw [if_neg e]
      cases getP kvs j <;> simp [e]
  · rw [if_neg h, get_snoc]
    rw [has_get] at h
    by_cases e : j = k
    · subst e
      rw [if_pos rfl]
      cases q : getP kvs j with
      | none => simp
      | some x => rw [q] at h; simp at h
    · rw [if_neg e]
      cases q : getP kvs j with
      | none => simp [Ne.symm e]
      | some x => rfl
theorem put_len {α : Type} {k : Key} {v : α} {kvs : List (Key × α)} : (putP kvs k v).length ≤ kvs.length + 1 := by
  unfold putP
  split
  · rw [List.length_map]; omega
  · rw [List.length_append]; simp
section
variable {K : PySem.W.Frag} {U : Addr → Prop} {H : Hp}
theorem getV_rel {k : Key} : ∀ {kvs : List (Key × V)} {ds : List D}, Reps K U H ds (kvs.map (·.2)) → match getP ((kvs.map (·.1)).zip ds) k with | some d => ∃ v, valV kvs k = some v ∧ Rep K U H d v | none => valV kvs k = none
  | [], ds, h => by simp [getP, valV]
  | p :: r, ds, h => by
    cases ds with
    | nil => simp only [Reps] at h; cases h
    | cons d ds =>
      simp only [Reps, List.map_cons] at h
      obtain ⟨x, t, e, r1, r2⟩ := h
      cases e
      simp only [List.map_cons, List.zip_cons_cons]
      unfold getP
      by_cases e : p.1 = k
      · rw [if_pos e]
        exact ⟨p.2, valV_pos e, r1⟩
      · rw [if_neg e, valV_neg e]
        exact getV_rel r2
theorem hasV_rel {k : Key} : ∀ {kvs : List (Key × V)} {ds : List D}, kvs.length = ds.length → hasP ((kvs.map (·.1)).zip ds) k = kvs.any fun kv => decide (kv.1 = k)
  | [], ds, h => by simp [hasP]
  | p :: r, ds, h => by
    cases ds with
    | nil => simp at h
    | cons d ds =>
      simp only [List.map_cons, List.zip_cons_cons, List.any_cons]
      unfold hasP
      rw [hasV_rel (by simpa using h)]
theorem mapV_rel {k : Key} {d : D} {v : V} (r : Rep K U H d v) : ∀ {kvs : List (Key × V)} {ds : List D}, Reps K U H ds (kvs.map (·.2)) →
    (kvs.map fun kv => if kv.1 = k then (kv.1, v) else kv).map (·.1) = (((kvs.map (·.1)).zip ds).map fun p => (p.1, if p.1 = k then d else p.2)).map (·.1) ∧ Reps K U H ((((kvs.map (·.1)).zip ds).map fun p => (p.1, if p.1 = k then d else p.2)).map (·.2)) ((kvs.map fun kv => if kv.1 = k then (kv.1, v) else kv).map (·.2))
  | [], ds, h => ⟨by simp, by simpa using Reps.nil⟩
  | p :: t, ds, h => by
    cases ds with
    | nil => simp only [Reps] at h; cases h
    | cons d' ds =>
      simp only [Reps, List.map_cons] at h
      obtain ⟨x, t', e, r1, r2⟩ := h
      cases e
      obtain ⟨i1, i2⟩ := mapV_rel r r2
      simp only [List.map_cons, List.zip_cons_cons]
      by_cases e : p.1 = k
      · simp only [if_pos e]
        exact ⟨by rw [i1], Reps.cons r i2⟩
      · simp only [if_neg e]
        exact ⟨by rw [i1], Reps.cons r1 i2⟩
/-- a store, in the heap and in the data -/
theorem putV_rel {k : Key} {d : D} {v : V} {kvs : List (Key × V)} {ds : List D} (r : Rep K U H d v) (h : Reps K U H ds (kvs.map (·.2))) :
    (putK kvs k v).map (·.1) = (putP ((kvs.map (·.1)).zip ds) k d).map (·.1) ∧ Reps K U H ((putP ((kvs.map (·.1)).zip ds) k d).map (·.2)) ((putK kvs k v).map (·.2)) := by
  have hl : kvs.length = ds.length := by
    have := h.length
    simpa using this
  unfold putK putP
  rw [hasV_rel hl]
  by_cases q : (kvs.any fun kv => decide (kv.1 = k)) = true
  · rw [if_pos q, if_pos q]
    exact mapV_rel r h
  · rw [if_neg q, if_neg q]
    have e1 : ((kvs.map (·.1)).zip ds).map (·.1) = kvs.map (·.1) := by
      rw [List.map_fst_zip]
      simp [hl]
    have e2 : ((kvs.map (·.1)).zip ds).map (·.2) = ds := by
      rw [List.map_snd_zip]
      simp [hl]
    rw [List.map_append, List.map_append, List.map_append, List.map_append, e1, e2]
    exact ⟨rfl, h.append (Reps.cons r Reps.nil)⟩
end
/-- a key as data -/
def keyD : D → Option Key
  | .int n => some (.inl n)
  | .str x => some (.inr x)
  | _ => none
theorem key_rep {K : PySem.W.Frag} {U : Addr → Prop} {H : Hp} {d : D} {v : V} {k : Key} (h : keyD d = some k) (r : Rep K U H d v) : v = kV k := by
  cases d with
  | int n => cases h; rw [inv_int r]; rfl
  | str x => cases h; rw [inv_str r]; rfl
  | _ => cases h
abbrev asDict (d : D) : M (List (Key × D)) := fun Q _ => match d with | .dK ks ds => Q (ks.zip ds) | _ => False
/-- d[k] -/
abbrev mGet (x y : D) : M D := fun Q _ => match x with
  | .dK ks ds => (match keyD y with
    | some k => (match getP (ks.zip ds) k with
      | some d => Q d
      | none => False)
    | none => False)
  | _ => False
/-- d.get(k, v) -/
abbrev mGet2 (x y u : D) : M D := fun Q _ => match x with
  | .dK ks ds => (match keyD y with
    | some k => Q ((getP (ks.zip ds) k).getD u)
    | none => False)
  | _ => False
section
variable {X : Cx} {z : Zc} {O : List Nat} {o i e : Expr} {to ti te : TE} {mo mi me : DEnv → M D} {pos pos' ppos ipos : Pos} {k' : Nat} {x : Str}
theorem rep_dict_inv {K : PySem.W.Frag} {U : Addr → Prop} {H : Hp} {ks : List Key} {ds : List D} {v : V} (h : Rep K U H (.dK ks ds) v) : ∃ a kvs, v = .ref a ∧ (H a = some (.dK kvs) ∧ ¬ U a ∧ kvs.map (·.1) = ks) ∧ Reps K U H ds (kvs.map (·.2)) := by simpa only [Rep] using h
theorem tm_dget (ho : TMe z to mo) (hi : TMe z ti mi) : TMe z (tDGet to ti) (fun ρ => bnd (mo ρ) fun x => bnd (mi ρ) fun y => mGet x y) := fun U σ H ρ Q Qd E w he h k =>
  ho U σ H ρ _ _ E w he h fun d v H1 h1 e1 j1 r1 => hi U σ H1 ρ _ _ E (w.step e1 j1) he h1 fun d2 v2 H2 h2 e2 j2 r2 => by
    have r1 := r1.ext e2 w.gu
    cases d with
    | dK ks ds =>
      obtain ⟨a, kvs, rfl, ⟨ha, na, rfl⟩, r⟩ := rep_dict_inv r1
      have h2 : (match keyD d2 with | some k => (match getP ((kvs.map (·.1)).zip ds) k with | some d => Qd d | none => False) | none => False) := h2
      cases hk : keyD d2 with
      | none => rw [hk] at h2; exact h2.elim
      | some key =>
        simp only [hk] at h2
        have g := getV_rel (k := key) r
        cases hg : getP ((kvs.map (·.1)).zip ds) key with
        | none => simp only [hg] at h2
        | some dv =>
          simp only [hg] at h2
          rw [hg] at g
          obtain ⟨v, hv, rv⟩ := g
          refine ⟨a, v, rfl, ?_, k dv v H2 h2 (e1.trans e2) j2 rv⟩
          rw [key_rep hk r2, ← hv]
          exact DGet.k ha
    | _ => exact h2.elim
theorem de_dget (hr : Room k' X.A) (ho : DE X z o to mo) (hi : DE X z i ti mi) (hs : NoSl i := by exact fun _ _ => rfl) : DE X z (.Subscript o i pos) (tDGet to ti) (fun ρ => bnd (mo ρ) fun x => bnd (mi ρ) fun y => mGet x y) := ⟨pe_dget (hu_of hr) ho.pe hi.pe hs, tm_dget ho.tm hi.tm⟩
/-- {} -/
theorem df_dnew : DF X z (.Dict [] [] pos) tDNewK (fun _ => ret (.dK [] [])) := ⟨pe_dnewK, fun U σ H ρ Q Qd E w he h k p hp => k (.dK [] []) p _ _ h hp (Ext.new hp) (z.g.new w.j hp) upd_same (.inr ⟨[], [], [], rfl, rfl, rfl, Reps.nil⟩)⟩
/-- the def's own dict in a slot -/
abbrev mOwnK (i : Nat) (ρ : DEnv) (f : List (Key × D) → Prop) : Prop := match ρ.getD i none with
  | some (.dK ks ds) => f (ks.zip ds)
  | _ => False
theorem mOwnK_inv {i : Nat} {ρ : DEnv} {f : List (Key × D) → Prop} (h : mOwnK i ρ f) : ∃ ks ds, ρ[i]? = some (some (.dK ks ds)) ∧ f (ks.zip ds) := by
  have h : (match ρ.getD i none with | some (.dK ks ds) => f (ks.zip ds) | _ => False) := h
  cases q : ρ.getD i none with
  | none => rw [q] at h; exact h.elim
  | some d =>
    rw [q] at h
    have q' : ρ[i]? = some (some d) := by
      rw [List.getD_eq_getElem?_getD] at q
      cases e : ρ[i]? with
      | none => rw [e] at q; simp at q
      | some o => rw [e] at q; simp at q; rw [q]
    cases d with
    | dK ks ds => exact ⟨ks, ds, q', h⟩
    | _ => exact h.elim
/-- what a store does to the own dict -/
theorem SO.putKey {oa : Nat → Addr} {σ : L2.St} {H : Hp} {ρ : DEnv} (s : SO z O oa σ H ρ) {i : Nat} {ks : List Key} {ds : List D} {d : D} {v : V} {k : Key} (hi : i ∈ O) (h : ρ[i]? = some (some (.dK ks ds))) (r : Rep z.K (Uo z O oa ρ) H d v) :
    ∃ kvs, σ[i]? = some (some (.ref (oa i))) ∧ H (oa i) = some (.dK kvs) ∧ kvs.length = (ks.zip ds).length ∧ SO z O oa σ (upd H (oa i) (.dK (putK kvs k v))) (ρ.set i (some (dictD (putP (ks.zip ds) k d)))) := by
  obtain ⟨nu, kvs, e1, e2, rfl, rs⟩ := s.ownK hi h
  obtain ⟨p1, p2⟩ := putV_rel (k := k) r rs
  have hl := rs.length
  rw [List.length_map] at hl
  exact ⟨kvs, e1, e2, by simp [hl], s.putO hi h (.inr ⟨_, _, _, rfl, rfl, p1, p2⟩)⟩
theorem tms_dput0 {j : Nat} (he : TMe z te me) (hk : TMe z ti mi) (ho : j ∈ O) : TMs0 z O (sDPut (tVar j) ti te) (fun κ E ρ => me (hide O ρ) (fun d => mOwnK j ρ fun kvs => mi (hide O ρ) (fun y => match keyD y with
    | some k => kvs.length < sizeLine ∧ κ.nx (ρ.set j (some (dictD (putP kvs k d))))
    | none => False) E) E) := fun oa σ H ρ Dn κ E s hE ko hm =>
  he _ σ H _ _ _ E s.vis hE hm fun d v H1 h1 e1 j1 r1 => by
    have s1 := s.step e1 j1
    obtain ⟨ks, ds, hρ, h1⟩ := mOwnK_inv h1
    obtain ⟨_, kvs0, hσ, _, _, _⟩ := s1.ownK ho hρ
    refine ⟨_, hσ, hk _ σ H1 _ _ _ E s1.vis hE h1 fun d2 v2 H2 h2 e2 j2 r2 => ?_⟩
    have s2 := s1.step e2 j2
    cases q : keyD d2 with
    | none => simp only [q] at h2
    | some key =>
      simp only [q] at h2
      obtain ⟨kvs, e3, e4, e5, s3⟩ := s2.putKey (k := key) ho hρ (r1.ext e2 s1.gu)
      rw [key_rep q r2]
      exact ⟨oa j, _, rfl, DPut.k e4 (by rw [e5]; exact h2.1), ko.nx oa _ _ _ s3 h2.2⟩
/-- x[k] = e, x the def's own dict -/
theorem ds_dput (j : Nat) (hr : Room k' X.A) (he : DE X z e te me) (hk : DE X z i ti mi) (ho : j ∈ O := by decide) (hN : X.N[j]? = some x := by rfl) (hv : Vis X.env.scope x := by first | exact Or.inl rfl | exact Or.inr (Or.inl rfl) | exact Or.inr (Or.inr rfl)) (hd : (x == ("__debug__" : Str)) = false := by decide) (hcd : (x == ("__classdict__" : Str)) = false := by decide)
    (hs : swapsWith e (some (.Subscript (.Name x ppos) i pos')) pos.line X.env = pure false := by rfl) :
    DS X z O (.Assign [.Subscript (.Name x ppos) i pos'] e pos) (sDPut (tVar j) ti te) (fun κ E ρ => me (hide O ρ) (fun d => mOwnK j ρ fun kvs => mi (hide O ρ) (fun y => match keyD y with
      | some k => kvs.length < sizeLine ∧ κ.nx (ρ.set j (some (dictD (putP kvs k d))))
      | none => False) E) E) := ⟨ps_dput (hu_of hr) (pv j hN hv hd hcd) hk.pe he.pe hs, tms_of fun kp => tms_dput0 (he.tm.keep kp) (hk.tm.keep kp) ho⟩
/-- list(range(n)) -/
abbrev mLstRg (d : D) : M D := fun Q _ => match d with | .int n => (0 ≤ n ∧ n ≤ 16777216) ∧ Q (.lst (rangeD 0 n.toNat)) | _ => False
theorem reps_rg {K : PySem.W.Frag} {U : Addr → Prop} {H : Hp} {n : Int} : Reps K U H (rangeD 0 n.toNat) (rgV 0 n) := by
  unfold rangeD rgV
  rw [Int.sub_zero]
  generalize List.range n.toNat = l
  induction l with
  | nil => exact Reps.nil
  | cons i r ih => exact Reps.cons rep_int ih
theorem df_listRg {rp lp : Pos} (hc : X.calm = true) (hl : X.mg "list" = none) (hm : X.mg "range" = none) (ha : DE X z e te me) (hg : Gl X "list" := by rfl) (hg2 : Gl X "range" := by rfl) (na : starEach [e] X.env = (false, eval e X.env) :: starEach [] X.env := by rfl)
    (na2 : starEach [.Call (.Name "range" rp) [e] [] ppos] X.env = (false, eval (.Call (.Name "range" rp) [e] [] ppos) X.env) :: starEach [] X.env := by rfl) : DF X z (.Call (.Name "list" lp) [.Call (.Name "range" rp) [e] [] ppos] [] pos) (tLstRg (tRg1 te)) (fun ρ => bnd (me ρ) mLstRg) :=
  ⟨pe_listRg hc hg hl (prg_1 hg2 hm ha.pe na) na2, fun U σ H ρ Q Qd E w he h k => ha.tm U σ H ρ _ _ E w he h fun d v H1 h1 e1 j1 r1 => by
    cases d with
    | int n =>
      refine ⟨n, inv_int r1, RgOk.of_le (by decide) h1.1.2 (by decide) h1.1.1, fun q hq => ?_⟩
      exact k (.lst (rangeD 0 n.toNat)) q _ _ h1.2 (none_back (G := z.g.G) j1 e1 hq) (e1.trans (Ext.new hq)) (z.g.new j1 hq) upd_same (.inl ⟨_, _, rfl, rfl, reps_rg⟩)
    | _ => exact h1.elim⟩
/-! ### two names at once -/
variable {a b : Expr} {ta tb : TE} {ma mb : DEnv → M D} {fl : List Bool} {tr : TA} {mr : DEnv → M (List D)} {y : Str} {px py pt : Pos} {kt k2 : Nat} {pt2 : Pos}
/-- a, b = e1, e2: e1 of the own objects too, what it gives is flat -/
theorem tms_par2F0 {i j : Nat} (ha : TMe z ta ma) (hb : TMe z tb mb) (hi : i ∉ O) (hj : j ∉ O) : TMs0 z O (tPar i j (tCons ta (tCons tb tNil))) (fun κ E ρ => ma ρ (fun d1 => flat d1 = true ∧ mb (hide O ρ) (fun d2 => κ.nx ((ρ.set i (some d1)).set j (some d2))) E) E) := fun oa σ H ρ Dn κ E s hE ko hm =>
  ha _ σ H _ _ _ E s.full hE hm fun d1 v1 H1 h1 e1 j1 r1 => by
    have s1 := s.step e1 j1
    have r1' := s1.flat h1.1 r1
    refine hb _ σ H1 _ _ _ E s1.vis hE h1.2 fun d2 v2 H2 h2 e2 j2 r2 => ⟨v1, v2, rfl, ?_⟩
    have s2 := s1.step e2 j2
    refine ko.nx oa _ H2 _ ((s2.set hi (r1'.ext e2 s1.gu)).set hj ?_) h2
    rw [Uo_set hi]
    exact r2
theorem ds_par2F (i j : Nat) (hc : X.calm = true) (hN : X.N.Nodup) (ha : DE X z a ta ma) (hb : DE X z b tb mb) (hio : i ∉ O := by decide) (hjo : j ∉ O := by decide) (hi : X.N[i]? = some x := by rfl) (hj : X.N[j]? = some y := by rfl) (hij : i ≠ j := by decide)
    (hx : X.env.scope.names.lookup x = some .local := by rfl) (hy : X.env.scope.names.lookup y = some .local := by rfl)
    (hw : swappedStores [.Tuple [.Name x px, .Name y py] kt pt] (.Tuple [a, b] k2 pt2) X.env = pure (some [x, y]) := by rfl)
    (hs : swapsWithSole [.Tuple [.Name x px, .Name y py] kt pt] (.Tuple [a, b] k2 pt2) pos.line X.env = pure false := by rfl)
    (h1 : starEach [a, b] X.env = (false, eval a X.env) :: starEach [b] X.env := by rfl) (h2 : starEach [b] X.env = (false, eval b X.env) :: starEach [] X.env := by rfl) :
    DS X z O (.Assign [.Tuple [.Name x px, .Name y py] kt pt] (.Tuple [a, b] k2 pt2) pos) (tPar i j (tCons ta (tCons tb tNil))) (fun κ E ρ => ma ρ (fun d1 => flat d1 = true ∧ mb (hide O ρ) (fun d2 => κ.nx ((ρ.set i (some d1)).set j (some d2))) E) E) :=
  ⟨ps_par hc hN hi hj hij hx hy (pa_cons ha.pe (pa_cons hb.pe pa_nil h2) h1) hw hs, tms_of fun kp => tms_par2F0 (ha.tm.keep kp) (hb.tm.keep kp) hio hjo⟩
/-- the same by a tuple (a name is a cell), the marked ones new and the def's own -/
theorem tms_tup20 {i j : Nat} (ha : TMr z fl tr mr) (hO : RowOk O fl [i, j]) : TMs0 z O (tAsg (tTup tr) (gTup z.K 2 (gCons (gName i) (gCons (gName j) gNil)))) (fun κ E ρ => mr (hide O ρ) (fun ds => κ.nx (setAll [i, j] ds ρ)) E) := fun oa σ H ρ Dn κ E s hE ko hm => by
  refine ha _ σ H _ _ _ E s.vis hE hm fun ds vs As H' q e jj hA nd hr => ?_
  have hlen := (rowRep_length hr).1
  rw [rowOk_len hO] at hlen
  match vs, hlen, hr with
  | [v, w], _, hr =>
    refine ⟨two_small, fun p hp => ⟨p, [v, w], rfl, .inl (.inl upd_same), rfl, v, [w], rfl, w, [], rfl, rfl, ?_⟩⟩
    have hn := none_back (G := z.g.G) jj e hp
    have e' : Ext z.g.G H (upd H' p (.tup [v, w])) := e.trans (Ext.new hp)
    have j' : z.g.J (upd H' p (.tup [v, w])) := z.g.new jj hp
    have hA' : ∀ a, a ∈ As → H a = none ∧ upd H' p (.tup [v, w]) a ≠ none := fun a h => ⟨(hA a h).1, by
      cases q : H' a with
      | none => exact absurd q (hA a h).2
      | some o => rw [upd_ne (ne_of_none q hp), q]; simp⟩
    have hr' : RowRep z.K (fun b => Uo z O oa ρ b ∨ b ∈ As) (upd H' p (.tup [v, w])) fl ds [v, w] As := hr.mono (fun b o hb n => ⟨by rw [upd_ne (ne_of_none hb hp)]; exact hb, n⟩) fun b o _ hb => by rw [upd_ne (ne_of_none hb hp)]; exact hb
    have s1 : SO (z.with As) O oa σ (upd H' p (.tup [v, w])) ρ := s.with e' j' hA'
    have hUe : (fun b => Uo z O oa ρ b ∨ b ∈ As) = Uo (z.with As) O oa ρ := funext fun b => propext (uo_with b).symm
    rw [hUe] at hr'
    obtain ⟨oa', s2⟩ := SO.setRow s.ok (s.step e' j').d0 fl [i, j] As ds [v, w] oa σ ρ s1 nd (fun a h => ⟨fun q => s.d0 a q (hA a h).1, by
      cases q : z.H0 a with
      | none => rfl
      | some o =>
        have := s.ext a o q fun g => z.g.dom H a s.j g (hA a h).1
        rw [(hA a h).1] at this
        cases this⟩) hO hr'
    exact ko.nx oa' _ _ _ s2 q
theorem ds_tup2 (i j : Nat) (hc : X.calm = true) (hK : X.K = z.K) (hN : X.N.Nodup) (ha : DRow X z fl [a, b] tr mr) (hO : RowOk O fl [i, j] := by simp [RowOk]) (hi : X.N[i]? = some x := by rfl) (hj : X.N[j]? = some y := by rfl)
    (hx : Loc X.env.scope x := by first | exact .inl rfl | exact .inr rfl) (hy : Loc X.env.scope y := by first | exact .inl rfl | exact .inr rfl) (hfx : X.fn x = true ∨ X.env.scope.names.lookup x = some .local := by first | exact .inl rfl | exact .inr rfl) (hfy : X.fn y = true ∨ X.env.scope.names.lookup y = some .local := by first | exact .inl rfl | exact .inr rfl)
    (hs : swapsWithSole [.Tuple [.Name x px, .Name y py] kt pt] (.Tuple [a, b] k2 pt2) pos.line X.env = pure false := by rfl) (hw : swappedStores [.Tuple [.Name x px, .Name y py] kt pt] (.Tuple [a, b] k2 pt2) X.env = pure none := by rfl)
    (h1 : (assignEach [.Tuple [.Name x px, .Name y py] kt pt] X.env).map (·.2) = [assign (.Tuple [.Name x px, .Name y py] kt pt) X.env] := by rfl)
    (hs1 : (assignEach [.Name x px, .Name y py] X.env).map (·.2) = assign (.Name x px) X.env :: (assignEach [.Name y py] X.env).map (·.2) := by rfl)
    (hs2 : (assignEach [.Name y py] X.env).map (·.2) = assign (.Name y py) X.env :: (assignEach [] X.env).map (·.2) := by rfl)
    (hn : (assignEach [.Name x px, .Name y py] X.env).length = 2 := by rfl) (hst : (assignEach [.Name x px, .Name y py] X.env).findIdx? (·.1) = none := by rfl) :
    DS X z O (.Assign [.Tuple [.Name x px, .Name y py] kt pt] (.Tuple [a, b] k2 pt2) pos) (tAsg (tTup tr) (gTup z.K 2 (gCons (gName i) (gCons (gName j) gNil)))) (fun κ E ρ => mr (hide O ρ) (fun ds => κ.nx (setAll [i, j] ds ρ)) E) :=
  ⟨ps_asg (pe_tup ha.pe) (by rw [← hK]; exact pg_tup hc (pgs_cons (pg_name hN hi hx hfx) (pgs_cons (pg_name hN hj hy hfy) pgs_nil hs2) hs1) hn hst) hs hw h1, tms_of fun kp => tms_tup20 (ha.tm.keep kp) hO⟩
end
end DL

/-! DTab: a call of what a written dict of defs holds under a text. -/
namespace DL
open PySem PySem.Spec PyProof.Rows L2
/-- the def at f keeps a promise over data -/
def GFat (P : Program) (w : World) (K : PySem.W.Frag) (mg : Str → Option Value) (base : Heap) (g : GG) (f : Addr) (n k : Nat) (sp : FS) : Prop :=
  ∃ fd ps, PySem.W.keepIn K (.ref f) = true ∧ FnOk P w K mg base (L2.CX P w) k f fd ps (spOf K g n sp) ∧ Binds K fd ps []
/-- the module's dict x, at p: under each text that T tells stands a def that keeps the promise told -/
def GTab (P : Program) (w : World) (K : PySem.W.Frag) (mg : Str → Option Value) (base : Heap) (g : GG) (x : Str) (p : Addr) (n k : Nat) (T : Str → Option FS) : Prop :=
  mg x = some (.ref p) ∧ ∀ y sp, T y = some sp → ∃ f, KDct K w p y (.ref f) ∧ GFat P w K mg base g f n k sp
def tTab (P : Program) (w : World) (K : PySem.W.Frag) (mg : Str → Option Value) (base : Heap) (g : GG) (p : Addr) (n k : Nat) (E : XK) (tk : TE) (t : TA) : TE := fun σ H Q =>
  tOp (rIxD K w) (tC (.ref p)) tk σ H fun v H1 => ∃ sp f, v = .ref f ∧ GFat P w K mg base g f n k sp ∧ t σ H1 fun vs H2 => spOf K g n sp vs H2 Q E
section
variable {X : Cx} {z : Zc} {a ke : Expr} {es : List Expr} {tk : TE} {mk : DEnv → M D} {tr : TA} {mr : DEnv → M (List D)} {x : Str} {p : Addr} {n k k' : Nat} {T : Str → Option FS} {pp px pos : Pos} {P : Program} {w : World} {K : PySem.W.Frag} {mg : Str → Option Value} {base : Heap} {g : GG} {EK : XK}
theorem de_tab (F : GTab P w K mg base g x p n k T) (hP : X.prog = P) (hw : X.w = w) (hX : X.K = K) (hmg : X.mg = mg) (hbase : X.base = base) (hgg : z.g = g) (hE : z.EK = EK) (hr : Room k' X.A) (hk : k ≤ k') (tkk : Takes X (fun c d _ H => z.EK c d H)) (hK : X.K = z.K) (hkey : DE X z ke tk mk) (ha : DA X z (a :: es) tr mr) (hg : Gl X x := by rfl) (hs : PlainIx ke := by exact fun _ _ => rfl)
    (hdb : (x == ("__debug__" : Str)) = false := by decide)
    (ht : eval (.Call (.Subscript (.Name x pp) ke px) (a :: es) [] pos) X.env = (do callWith pos (← eval (.Subscript (.Name x pp) ke px) X.env) [] (backTo pos (starEach (a :: es) X.env)) (backToKw pos (keywordEach [] X.env))) := by rfl)
    (he : starEach (a :: es) X.env = (false, eval a X.env) :: starEach es X.env := by rfl) (hpl : (backTo pos (starEach es X.env)).any (·.1) = false := by rfl) :
    DE X z (.Call (.Subscript (.Name x pp) ke px) (a :: es) [] pos) (tTab P w K mg base g p n k EK tk tr) (fun ρ => bnd (mk ρ) fun d => fun Q E => match d with | .str y => (match T y with | some sp => bnd (mr ρ) (mCall n sp) Q E | none => False) | _ => False) := by
  subst hP hw hX hmg hbase hgg hE
  obtain ⟨h1, h2⟩ := F
  refine ⟨⟨fun pins s σ H Q I h => ?_⟩, fun U σ H ρ Q Qd E w he hm k => hkey.tm U σ H ρ _ _ E w he hm fun d v H1 hd e1 j1 r1 => ?_⟩
  · have sub := pe_ix (pos := px) (ix_kdict (X := X)) (pe_glob (pos := pp) hg h1 (v := .ref p) rfl hdb) hkey.pe hs
    refine Call_ (thn (sub.run pins s σ H _ I h) fun u s1 hu => ?_) ht
    obtain ⟨v, H1, I1, r1, sp, f, rfl, ⟨fd, ps, g1, g2, g3⟩, q⟩ := hu
    obtain rfl : u = Value.ref f := r1
    refine PySem.W.callWith_K (h₀ := X.base) I1.ok.mod.kin g1 (thn (ha.pe.run pos pins s1 σ H1 _ I1 q) fun us s2 hu2 => ?_) he hpl
    obtain ⟨vs, H2, I2, r2, q2⟩ := hu2
    exact ⟨I2.kIn, run_fn g2 (hr.mono hk) g3 .nil (passes_call tkk fun _ _ _ _ h => h) I2 r2 (by rw [List.append_nil]; exact q2)⟩
  · cases d with
    | str y =>
      cases hT : T y with
      | none =>
        simp only [hT] at hd
      | some sp =>
        simp only [hT] at hd
        obtain ⟨f, kd, gf⟩ := h2 y sp hT
        have w1 := w.step e1 j1
        refine ⟨p, y, .ref f, rfl, inv_str r1, kd, sp, f, rfl, gf, ha.tm U σ H1 ρ _ _ E w1 he hd fun ds vs H2 hh e2 j2 r2 => ?_⟩
        have w2 := w1.step e2 j2
        rw [hK]
        exact ⟨r2.length.trans hh.1, U, ds, Qd, E, w.gu, w2.dom, j2, r2, hh.2, fun d v H' q e3 j3 r3 => k d v H' q ((e1.trans e2).trans e3) j3 r3, fun x cls dp H' q e3 j3 r3 => w.ok.ek x cls dp H' (he x q) (w2.ext.trans e3) j3 (r3.less w.u)⟩
    | _ => exact hd.elim
end
end DL

/-! DSpec: fractions as data, what the program's and the law's fraction defs promise. -/
namespace DL
open PySem PySem.Spec PyProof.Rows L2
/-- a fraction as data -/
abbrev rD (q : Rat) : D := .tup [.int q.num, .int (q.den : Int)]
/-- of at most k bits -/
def Bd (k : Nat) (q : Rat) : Prop := q.num.natAbs < 2 ^ k ∧ q.den < 2 ^ k
theorem pw (a b : Nat) : (2 : Nat) ^ (a + b) = 2 ^ a * 2 ^ b := Nat.pow_add 2 a b
theorem Bd.mono {j k : Nat} {q : Rat} (h : Bd j q) (l : j ≤ k) : Bd k q := ⟨Nat.lt_of_lt_of_le h.1 (Nat.pow_le_pow_right (by decide) l), Nat.lt_of_lt_of_le h.2 (Nat.pow_le_pow_right (by decide) l)⟩
theorem log_lt {n k : Nat} (h : n < 2 ^ k) (hk : 0 < k) : n.log2 < k := by
  by_cases h0 : n = 0
  · subst h0; simpa using hk
  · exact (Nat.log2_lt h0).mpr h
theorem mulOk_of {i j : Int} {k l : Nat} (h1 : i.natAbs < 2 ^ k) (h2 : j.natAbs < 2 ^ l) (hk : k + l < 900000) : MulOk i j := by
  refine .inr ?_
  unfold CMulW
  have a := log_lt (k := k + 1) (Nat.lt_of_lt_of_le h1 (Nat.pow_le_pow_right (by decide) (Nat.le_succ _))) (Nat.succ_pos _)
  have b := log_lt (k := l + 1) (Nat.lt_of_lt_of_le h2 (Nat.pow_le_pow_right (by decide) (Nat.le_succ _))) (Nat.succ_pos _)
  omega
theorem divOk_of {i j : Int} {l : Nat} (h0 : j ≠ 0) (h2 : j.natAbs < 2 ^ l) (hk : l < 8999) : DivOk i j := by
  have b := log_lt (k := l + 1) (Nat.lt_of_lt_of_le h2 (Nat.pow_le_pow_right (by decide) (Nat.le_succ _))) (Nat.succ_pos _)
  exact ⟨h0, by omega⟩
theorem natAbs_mul_lt {i j : Int} {k l : Nat} (h1 : i.natAbs < 2 ^ k) (h2 : j.natAbs < 2 ^ l) : (i * j).natAbs < 2 ^ (k + l) := by
  rw [Int.natAbs_mul, pw]
  exact Nat.mul_lt_mul'' h1 h2
theorem natAbs_add_lt {i j : Int} {k : Nat} (h1 : i.natAbs < 2 ^ k) (h2 : j.natAbs < 2 ^ k) : (i + j).natAbs < 2 ^ (k + 1) := by
  have := Int.natAbs_add_le i j
  rw [Nat.pow_succ]
  omega
theorem natAbs_sub_lt {i j : Int} {k : Nat} (h1 : i.natAbs < 2 ^ k) (h2 : j.natAbs < 2 ^ k) : (i - j).natAbs < 2 ^ (k + 1) := by
  rw [Int.sub_eq_add_neg]
  exact natAbs_add_lt h1 (by rwa [Int.natAbs_neg])
/-- the common divisor with the sign of the lower number -/
def cdiv (a b : Int) : Int := if b > 0 then ((Nat.gcd a.natAbs b.natAbs : Nat) : Int) else -((Nat.gcd a.natAbs b.natAbs : Nat) : Int)
theorem gcd_pos' {a b : Int} (h : b ≠ 0) : 0 < Nat.gcd a.natAbs b.natAbs := Nat.gcd_pos_of_pos_right _ (Int.natAbs_pos.mpr h)
theorem cdiv_ne {a b : Int} (h : b ≠ 0) : cdiv a b ≠ 0 := by
  have := gcd_pos' (a := a) h
  unfold cdiv
  split <;> omega
theorem cdiv_le {a b : Int} (h : b ≠ 0) : (cdiv a b).natAbs ≤ b.natAbs := by
  have := Nat.gcd_le_right (n := b.natAbs) a.natAbs (Int.natAbs_pos.mpr h)
  unfold cdiv
  split <;> omega
theorem low_num {a b : Int} (h : b ≠ 0) : a.fdiv (cdiv a b) = (Rat.divInt a b).num := by
  rw [Rat.num_divInt]
  have hg : (b.gcd a : Int) = ((Nat.gcd a.natAbs b.natAbs : Nat) : Int) := by rw [Int.gcd_comm]; rfl
  have hp := gcd_pos' (a := a) h
  have hd : ((Nat.gcd a.natAbs b.natAbs : Nat) : Int) ∣ a := Int.ofNat_dvd_left.mpr (Nat.gcd_dvd_left _ _)
  rw [hg]
  unfold cdiv
  by_cases hb : b > 0
  · rw [if_pos hb, Int.sign_eq_one_of_pos hb, Int.one_mul, Int.fdiv_eq_ediv_of_nonneg _ (by omega)]
  · rw [if_neg hb, Int.sign_eq_neg_one_of_neg (by omega)]
    obtain ⟨c, hc⟩ := hd
    have hg0 : ((Nat.gcd a.natAbs b.natAbs : Nat) : Int) ≠ 0 := by omega
    generalize ((Nat.gcd a.natAbs b.natAbs : Nat) : Int) = g at hc hg0
    subst hc
    have e1 : g * c = (-c) * (-g) := by rw [Int.neg_mul_neg, Int.mul_comm]
    have e2 : -1 * (g * c) = g * (-c) := by rw [Int.neg_one_mul, Int.mul_neg]
    rw [e2, Int.mul_ediv_cancel_left _ hg0, e1, Int.mul_fdiv_cancel _ (by omega)]
theorem low_den {a b : Int} (h : b ≠ 0) : b.fdiv (cdiv a b) = ((Rat.divInt a b).den : Int) := by
  rw [Rat.den_divInt, if_neg h]
  have hg : b.gcd a = Nat.gcd a.natAbs b.natAbs := by rw [Int.gcd_comm]; rfl
  have hp := gcd_pos' (a := a) h
  obtain ⟨c, hc⟩ := Nat.gcd_dvd_right a.natAbs b.natAbs
  rw [hg]
  unfold cdiv
  generalize Nat.gcd a.natAbs b.natAbs = g at hc hp
  have e0 : b.natAbs / g = c := by rw [hc]; exact Nat.mul_div_cancel_left _ hp
  rw [e0]
  have h1 : (b.natAbs : Int) = (g : Int) * (c : Int) := by rw [hc]; exact Int.natCast_mul g c
  have hg0 : (g : Int) ≠ 0 := by omega
  by_cases hb : b > 0
  · rw [if_pos hb, show b = (c : Int) * (g : Int) by rw [Int.mul_comm]; omega, Int.mul_fdiv_cancel _ hg0]
  · rw [if_neg hb, show b = (c : Int) * (-(g : Int)) by rw [Int.mul_neg, Int.mul_comm]; omega, Int.mul_fdiv_cancel _ (by omega)]
/-! ### Rat and data -/
theorem rD_of {a b : Int} (h : b ≠ 0) : D.tup [.int (a.fdiv (cdiv a b)), .int (b.fdiv (cdiv a b))] = rD (Rat.divInt a b) := by rw [low_num h, low_den h]
theorem den_ne (q : Rat) : (q.den : Int) ≠ 0 := by have := q.den_pos; omega
theorem add_div (p q : Rat) : p + q = Rat.divInt (p.num * q.den + q.num * p.den) (p.den * q.den : Int) := by
  rw [Rat.add_def', ← Rat.divInt_ofNat]; simp
theorem sub_div (p q : Rat) : p - q = Rat.divInt (p.num * q.den - q.num * p.den) (p.den * q.den : Int) := by
  rw [Rat.sub_def', ← Rat.divInt_ofNat]; simp
theorem mul_div (p q : Rat) : p * q = Rat.divInt (p.num * q.num) (p.den * q.den : Int) := by
  rw [Rat.mul_def', ← Rat.divInt_ofNat]; simp
theorem div_div (p q : Rat) (h : q ≠ 0) : p / q = Rat.divInt (p.num * q.den) (p.den * q.num) := by
  rw [Rat.div_def, Rat.inv_def]
  conv => lhs; lhs; rw [← Rat.num_divInt_den p]
  rw [Rat.divInt_mul_divInt]
theorem num_ne {q : Rat} (h : q ≠ 0) : q.num ≠ 0 := fun e => h (Rat.num_eq_zero.mp e)
theorem Bd.of {a b : Int} {k : Nat} (h : b ≠ 0) (h1 : a.natAbs < 2 ^ k) (h2 : b.natAbs < 2 ^ k) : Bd k (Rat.divInt a b) := by
  constructor
  · rw [Rat.num_divInt]
    have hp : 0 < b.gcd a := Int.gcd_pos_of_ne_zero_left _ h
    have e : (b.sign * a / (b.gcd a : Int)).natAbs ≤ (b.sign * a).natAbs := Int.natAbs_ediv_le_natAbs _ _
    have e2 : (b.sign * a).natAbs = a.natAbs := by
      rw [Int.natAbs_mul, Int.natAbs_sign_of_ne_zero h, Nat.one_mul]
    omega
  · rw [Rat.den_divInt, if_neg h]
    exact Nat.lt_of_le_of_lt (Nat.div_le_self _ _) h2
theorem Bd.add {j k : Nat} {p q : Rat} (hp : Bd j p) (hq : Bd k q) : Bd (j + k + 1) (p + q) := by
  rw [add_div]
  have d1 : (p.den : Int).natAbs < 2 ^ j := by simpa using hp.2
  have d2 : (q.den : Int).natAbs < 2 ^ k := by simpa using hq.2
  refine .of (Int.mul_ne_zero (den_ne p) (den_ne q)) (natAbs_add_lt (natAbs_mul_lt hp.1 d2) (by rw [Nat.add_comm]; exact natAbs_mul_lt hq.1 d1)) (Nat.lt_of_lt_of_le (natAbs_mul_lt d1 d2) (Nat.pow_le_pow_right (by decide) (Nat.le_succ _)))
theorem Bd.sub {j k : Nat} {p q : Rat} (hp : Bd j p) (hq : Bd k q) : Bd (j + k + 1) (p - q) := by
  rw [Rat.sub_eq_add_neg]
  exact hp.add ⟨by rw [Rat.neg_num, Int.natAbs_neg]; exact hq.1, by rw [Rat.neg_den]; exact hq.2⟩
theorem Bd.mul {j k : Nat} {p q : Rat} (hp : Bd j p) (hq : Bd k q) : Bd (j + k) (p * q) := by
  rw [mul_div]
  have d1 : (p.den : Int).natAbs < 2 ^ j := by simpa using hp.2
  have d2 : (q.den : Int).natAbs < 2 ^ k := by simpa using hq.2
  exact .of (Int.mul_ne_zero (den_ne p) (den_ne q)) (natAbs_mul_lt hp.1 hq.1) (natAbs_mul_lt d1 d2)
theorem Bd.div {j k : Nat} {p q : Rat} (h : q ≠ 0) (hp : Bd j p) (hq : Bd k q) : Bd (j + k) (p / q) := by
  rw [div_div p q h]
  have d1 : (p.den : Int).natAbs < 2 ^ j := by simpa using hp.2
  have d2 : (q.den : Int).natAbs < 2 ^ k := by simpa using hq.2
  exact .of (Int.mul_ne_zero (den_ne p) (num_ne h)) (natAbs_mul_lt hp.1 d2) (natAbs_mul_lt d1 hq.1)
theorem Bd.int {k : Nat} {i : Int} (h : i.natAbs < 2 ^ k) (hk : 0 < k) : Bd k (i : Rat) := ⟨by simpa using h, by simpa using Nat.one_lt_two_pow (by omega)⟩
theorem Bd.neg {k : Nat} {q : Rat} (h : Bd k q) : Bd k (-q) := ⟨by rw [Rat.neg_num, Int.natAbs_neg]; exact h.1, by rw [Rat.neg_den]; exact h.2⟩
/-! ### what the fraction defs promise -/
def sp_lowest : FS := fun ds Q E => ∃ a b : Int, ds = [.int a, .int b] ∧ b ≠ 0 ∧ b.natAbs < 2 ^ 8000 ∧ Q (rD (Rat.divInt a b))
def spQ2 (f : Rat → Rat → D) (C : Rat → Rat → Prop) : FS := fun ds Q E => ∃ p q : Rat, ds = [rD p, rD q] ∧ Bd 2000 p ∧ Bd 2000 q ∧ C p q ∧ Q (f p q)
abbrev sp_plus : FS := spQ2 (fun p q => rD (p + q)) fun _ _ => True
abbrev sp_minus : FS := spQ2 (fun p q => rD (p - q)) fun _ _ => True
abbrev sp_times : FS := spQ2 (fun p q => rD (p * q)) fun _ _ => True
abbrev sp_over : FS := spQ2 (fun p q => rD (p / q)) fun _ q => q ≠ 0
abbrev sp_is_less : FS := spQ2 (fun p q => .bl (decide (p < q))) fun _ _ => True
abbrev sp_lesser : FS := spQ2 (fun p q => rD (if q < p then q else p)) fun _ _ => True

/-! ### reckoning with readings -/
theorem ite_ap {α : Type} {c : Prop} [Decidable c] (A B : M α) (Q : α → Prop) (E : DX → Prop) : (if c then A else B) Q E = if c then A Q E else B Q E := by split <;> rfl
theorem at20 {α : Type} (x y : α) : atI [x, y] 0 = some x := rfl
theorem at21 {α : Type} (x y : α) : atI [x, y] 1 = some y := rfl
theorem at30 {α : Type} (x y z : α) : atI [x, y, z] 0 = some x := rfl
theorem at31 {α : Type} (x y z : α) : atI [x, y, z] 1 = some y := rfl
theorem at32 {α : Type} (x y z : α) : atI [x, y, z] 2 = some z := rfl
theorem dec_true {c : Prop} [Decidable c] : (decide c = true) = c := by simp
theorem two_le : 2 ≤ sizeLine := by rw [sizeLine_eq]; decide
theorem bd_dn {k : Nat} {q : Rat} (h : Bd k q) : ((q.den : Int)).natAbs < 2 ^ k := by simpa using h.2
theorem nn_of {q : Rat} : (0 : Int) < (q.den : Int) := by have := q.den_pos; omega
theorem lt_dec (p q : Rat) : decide (p.num * (q.den : Int) < q.num * (p.den : Int)) = decide (p < q) := by
  rw [decide_eq_decide, Rat.lt_iff]

def sp_as_fraction : FS := fun ds Q E => ∃ i : Int, ds = [.int i] ∧ Q (rD (i : Rat))
/-- the items of a sequence -/
def seqD : D → Option (List D)
  | .tup ds => some ds
  | .lst ds => some ds
  | _ => none
theorem asItems_seq {d : D} {ds : List D} {Q : List D → Prop} {E : DX → Prop} (h : seqD d = some ds) : asItems d Q E = Q ds := by
  cases d <;> simp [seqD] at h <;> subst h <;> rfl
/-- a sum of a list of fractions of at most k bits, so many that the sum stays small -/
def sp_total : FS := fun ds Q E => ∃ (d : D) (qs : List Rat), ds = [d] ∧ seqD d = some (qs.map rD) ∧ (∀ q ∈ qs, Bd 100 q) ∧ qs.length ≤ 12 ∧ Q (rD qs.sum)

/-! ### loops -/
theorem forW_ind {mg : D → (DEnv → Prop) → DEnv → Prop} {mb : MS} {κ : DK} {E : DX → Prop} (I : Nat → DEnv → Prop) : ∀ (items : List D) (n : Nat) (ρ : DEnv), I n ρ →
    (∀ i d ρ (k : DEnv → Prop), items[i]? = some d → I (n + i) ρ → (∀ ρ', I (n + i + 1) ρ' → k ρ') → mg d (mb { nx := k, rt := κ.rt, bk := κ.nx, ct := k } E) ρ) → (∀ ρ, I (n + items.length) ρ → κ.nx ρ) → forW mg mb κ E items ρ
  | [], n, ρ, h, _, he => he ρ h
  | d :: r, n, ρ, h, hs, he => by
    refine hs 0 d ρ _ rfl h fun ρ' h' => ?_
    refine forW_ind I r (n + 1) ρ' h' (fun i d ρ k hi hI hk => ?_) fun ρ h => he ρ ?_
    · refine hs (i + 1) d ρ k (by simpa using hi) ?_ ?_
      · rw [show n + (i + 1) = n + 1 + i by omega]; exact hI
      · rw [show n + (i + 1) + 1 = n + 1 + i + 1 by omega]; exact hk
    · rw [List.length_cons, show n + (r.length + 1) = n + 1 + r.length by omega]; exact h
/-- a comprehension without a condition that gives f of each item -/
theorem lcW_map {mg : D → (DEnv → Prop) → DEnv → Prop} {me : DEnv → M D} {ρ : DEnv} {f : D → D} {Q : List D → Prop} : ∀ (items acc : List D), (∀ d ∈ items, ∀ k : D → Prop, k (f d) → mg d (fun ρ' => me ρ' k fun _ => False) ρ) → Q (acc ++ items.map f) →
    lcW mg (fun _ => DL.ret true) me ρ acc items Q
  | [], acc, _, hq => by simpa [lcW] using hq
  | d :: r, acc, h, hq => by
    have go : lcW mg (fun _ => DL.ret true) me ρ (acc ++ [f d]) r Q := lcW_map r (acc ++ [f d]) (fun d hd => h d (List.mem_cons_of_mem _ hd)) (by simpa using hq)
    have := h d List.mem_cons_self (fun v => lcW mg (fun _ => DL.ret true) me ρ (acc ++ [v]) r Q) go
    unfold lcW
    exact this

theorem Bd.zero {k : Nat} (h : 0 < k) : Bd k 0 := ⟨by simp [Nat.two_pow_pos], by simpa using Nat.one_lt_two_pow (by omega)⟩
theorem Bd.sum {k : Nat} : ∀ {qs : List Rat}, (∀ q ∈ qs, Bd k q) → Bd (qs.length * (k + 1) + 1) qs.sum
  | [], _ => Bd.zero (by omega)
  | q :: r, h => by
    rw [List.sum_cons, List.length_cons, Nat.succ_mul]
    exact ((h q List.mem_cons_self).add (Bd.sum fun x hx => h x (List.mem_cons_of_mem _ hx))).mono (by omega)
theorem sum_take_succ' {qs : List Rat} {i : Nat} {q : Rat} (h : qs[i]? = some q) : (qs.take (i + 1)).sum = (qs.take i).sum + q := by
  rw [List.take_add_one, h, Option.toList_some, List.sum_append, List.sum_singleton]

def sp_divisor : FS := fun ds Q E => ∃ a b : Nat, ds = [.int a, .int b] ∧ Q (.int ((Nat.gcd a b : Nat) : Int))
def sp_frac : FS := fun ds Q E => ∃ n m : Int, ds = [.int n, .int m] ∧ 0 < m ∧ m.natAbs < 2 ^ 8000 ∧ Q (rD (Rat.divInt n m))
abbrev sp_by : FS := spQ2 (fun p q => rD (p / q)) fun _ q => 0 < q
def sp_neg : FS := fun ds Q E => ∃ p : Rat, ds = [rD p] ∧ Q (rD (-p))
theorem num_pos {q : Rat} (h : 0 < q) : 0 < q.num := by
  have h1 := num_ne (Rat.ne_of_gt h)
  have h2 := Rat.num_nonneg.mpr (Rat.le_of_lt h)
  omega
end DL

/-! DWell: a law's wells: lists of three ints that draws change; what stands in them is not told. -/
namespace DL
open PySem PySem.Spec PyProof.Rows L2
structure WellJ (g : GG) (Wl : Addr → Prop) : Prop where
  at_ : ∀ H a, g.J H → Wl a → ∃ x y u : Int, H a = some (.lst [.int x, .int y, .int u])
  gi : ∀ a, Wl a → g.G a
  j : ∀ H a (x y u : Int), g.J H → Wl a → g.J (upd H a (.lst [.int x, .int y, .int u]))
section
variable {X : Cx} {z : Zc} {Wl : Addr → Prop} {O : List Nat} {e : Expr} {te : TE} {me : DEnv → M D} {x : Str} {pp pi pos ps : Pos} {jj : Nat}
/-- the slot i holds a well -/
abbrev isW (Wl : Addr → Prop) (i : Nat) (ρ : DEnv) : Prop := match ρ.getD i none with
  | some (.obj a) => Wl a
  | _ => False
theorem isW_inv {i : Nat} {ρ : DEnv} (h : isW Wl i ρ) : ∃ a, ρ[i]? = some (some (.obj a)) ∧ Wl a := by
  have h : (match ρ.getD i none with | some (.obj a) => Wl a | _ => False) := h
  cases q : ρ.getD i none with
  | none => rw [q] at h; exact h.elim
  | some d =>
    rw [q] at h
    have q' : ρ[i]? = some (some d) := by
      rw [List.getD_eq_getElem?_getD] at q
      cases e : ρ[i]? with
      | none => rw [e] at q; simp at q
      | some o => rw [e] at q; simp at q; rw [q]
    cases d with
    | obj a => exact ⟨a, q', h⟩
    | _ => exact h.elim
theorem at_three {α : Type} {x y u : α} {j : Int} (h0 : 0 ≤ j) (h3 : j < 3) : ∃ v, atI [x, y, u] j = some v ∧ (v = x ∨ v = y ∨ v = u) := by
  have : j = 0 ∨ j = 1 ∨ j = 2 := by omega
  rcases this with rfl | rfl | rfl
  · exact ⟨x, rfl, .inl rfl⟩
  · exact ⟨y, rfl, .inr (.inl rfl)⟩
  · exact ⟨u, rfl, .inr (.inr rfl)⟩
/-- well[j], read -/
theorem de_wix {i : Nat} {j : Int} (W : WellJ z.g Wl) (hK : X.K = z.K) (h0 : 0 ≤ j) (h3 : j < 3) (hN : X.N[i]? = some x := by rfl) (hv : Vis X.env.scope x := by first | exact Or.inl rfl | exact Or.inr (Or.inl rfl) | exact Or.inr (Or.inr rfl)) (hd : (x == ("__debug__" : Str)) = false := by decide)
    (hcd : (x == ("__classdict__" : Str)) = false := by decide) : DE X z (.Subscript (.Name x pp) (.Constant (.int j) jj pi) pos) (tOp (rIxL z.K) (tVar i) (tC (.int j))) (fun ρ => fun Q _ => isW Wl i ρ ∧ ∀ v : Int, Q (.int v)) :=
  ⟨by rw [← hK]; exact pe_ix ix_list (pv i hN hv hd hcd) pe_int (fun _ _ => rfl), fun U σ H ρ Q Qd E w he h k => by
    obtain ⟨a, h1, h2⟩ := isW_inv h.1
    obtain ⟨v, e1, e2⟩ := w.env.2 i _ h1
    simp only [Rep] at e2
    subst e2
    obtain ⟨n1, n2, n3, hH⟩ := W.at_ H a w.j h2
    obtain ⟨v, hat, hv⟩ := at_three (x := V.int n1) (y := V.int n2) (u := V.int n3) h0 h3
    refine ⟨.ref a, e1, a, _, j, v, rfl, rfl, SqL.of hH, hat, ?_⟩
    rcases hv with rfl | rfl | rfl
    · exact k _ _ H (h.2 n1) (Ext.refl H) w.j rep_int
    · exact k _ _ H (h.2 n2) (Ext.refl H) w.j rep_int
    · exact k _ _ H (h.2 n3) (Ext.refl H) w.j rep_int⟩

theorem well_ext {g : GG} (W : WellJ g Wl) {H : Hp} {a : Addr} {o : HO} (h : Wl a) : Ext g.G H (upd H a o) := fun b u e n => by
  rw [upd_ne fun q => n (by rw [q]; exact W.gi a h)]
  exact e
/-- a store into a well -/
theorem well_set {g : GG} (W : WellJ g Wl) {H : Hp} {a : Addr} {j v : Int} (jj : g.J H) (h : Wl a) (h0 : 0 ≤ j) (h3 : j < 3) {Q : Hp → Prop} (k : ∀ H', Ext g.G H H' → g.J H' → Q H') : rSetL (.ref a) (.int j) (.int v) H Q := by
  obtain ⟨n1, n2, n3, hH⟩ := W.at_ H a jj h
  have : j = 0 ∨ j = 1 ∨ j = 2 := by omega
  rcases this with rfl | rfl | rfl
  · exact ⟨a, _, 0, 0, rfl, rfl, hH, rfl, k _ (well_ext W h) (W.j H a v n2 n3 jj h)⟩
  · exact ⟨a, _, 1, 1, rfl, rfl, hH, rfl, k _ (well_ext W h) (W.j H a n1 v n3 jj h)⟩
  · exact ⟨a, _, 2, 2, rfl, rfl, hH, rfl, k _ (well_ext W h) (W.j H a n1 n2 v jj h)⟩
/-- well[j] = e -/
theorem ds_wset {i : Nat} {j : Int} (W : WellJ z.g Wl) (hK : X.K = z.K) (h0 : 0 ≤ j) (h3 : j < 3) (hi : i ∉ O) (he : DE X z e te me) (hN : X.N[i]? = some x := by rfl) (hv : Vis X.env.scope x := by first | exact Or.inl rfl | exact Or.inr (Or.inl rfl) | exact Or.inr (Or.inr rfl)) (hd : (x == ("__debug__" : Str)) = false := by decide)
    (hcd : (x == ("__classdict__" : Str)) = false := by decide) (hs : swapsWithSole [.Subscript (.Name x pp) (.Constant (.int j) jj pi) pos] e ps.line X.env = pure false := by rfl) (hw : swappedStores [.Subscript (.Name x pp) (.Constant (.int j) jj pi) pos] e X.env = pure none := by rfl)
    (h1 : (assignEach [.Subscript (.Name x pp) (.Constant (.int j) jj pi) pos] X.env).map (·.2) = [assign (.Subscript (.Name x pp) (.Constant (.int j) jj pi) pos) X.env] := by rfl)
    (ha : ∀ v, assign (.Subscript (.Name x pp) (.Constant (.int j) jj pi) pos) X.env v = (do
      let ov ← holding [v] (eval (.Name x pp) X.env)
      let iv ← holding [v, ov] (eval (.Constant (.int j) jj pi) X.env)
      standAt pos
      holding [v, ov, iv] (setItem ov iv v)
      release [v, ov, iv] []) := by intro _; rfl) :
    DS X z O (.Assign [.Subscript (.Name x pp) (.Constant (.int j) jj pi) pos] e ps) (tAsg te (gSub (tVar i) (tC (.int j)) rSetL)) (fun κ E ρ => me (hide O ρ) (fun d => (∃ v, d = .int v) ∧ isW Wl i ρ ∧ κ.nx ρ) E) :=
  ⟨ps_asg he.pe (pg_sub (pv i hN hv hd hcd) pe_int set_list ha) hs hw h1, fun kp oa σ H ρ Dn κ E s hE ko hm => (he.tm.keep kp) _ σ H _ _ _ E s.vis hE hm fun d v H' q e1 j1 r1 => by
    obtain ⟨⟨n, rfl⟩, hW, q⟩ := q
    simp only [Rep] at r1
    subst r1
    obtain ⟨a, h1, h2⟩ := isW_inv hW
    have s1 := s.step e1 j1
    obtain ⟨v, e1', e2⟩ := s1.env i _ hi h1
    simp only [Rep] at e2
    subst e2
    refine ⟨.ref a, e1', ?_⟩
    exact well_set W (s1.j) h2 h0 h3 fun H2 e2 j2 => ko.nx oa σ H2 ρ (s1.step e2 j2) q⟩
abbrev mDivmod (a b : D) : M D := fun Q _ => match a, b with | .int i, .int j => (0 < j ∧ j < 1073741824) ∧ Q (.tup [.int (i / j), .int (i % j)]) | _, _ => False
theorem rmDivmod : RMn z (fun xs H Q => ∃ i j, xs = [.int i, .int j] ∧ CDiv i j ∧ ∀ p, H p = none → Q (.ref p) (upd H p (.tup [.int (i / j), .int (i % j)]))) (m2 mDivmod) := rmn2 fun U H a b x y Q Qd E gu hU j ra rb he h k => by
  match a, b, h with
  | .int i, .int l, h => exact ⟨i, l, by rw [inv_int ra, inv_int rb], h.1, fun p hp => k _ _ _ h.2 (Ext.new hp) (z.g.new j hp) (rep_tup_new hU hp (Reps.cons rep_int (Reps.cons rep_int Reps.nil)))⟩
/-- well[j], y = .. -/
theorem dg_wpair {i f : Nat} {j : Int} {y : Str} {k : Nat} {py : Pos} (W : WellJ z.g Wl) (hK : X.K = z.K) (hc : X.calm = true) (h0 : 0 ≤ j) (h3 : j < 3) (hi : i ∉ O) (hif : i ≠ f) (hf : f ∉ O) (hNd : X.N.Nodup) (hNf : X.N[f]? = some y := by rfl) (hx : Loc X.env.scope y := by first | exact .inl rfl | exact .inr rfl)
    (hfn : X.fn y = true ∨ X.env.scope.names.lookup y = some .local := by first | exact .inl rfl | exact .inr rfl)
    (hN : X.N[i]? = some x := by rfl) (hv : Vis X.env.scope x := by first | exact Or.inl rfl | exact Or.inr (Or.inl rfl) | exact Or.inr (Or.inr rfl)) (hd : (x == ("__debug__" : Str)) = false := by decide)
    (hcd : (x == ("__classdict__" : Str)) = false := by decide) 
    (ha : ∀ v, assign (.Subscript (.Name x pp) (.Constant (.int j) jj pi) pos) X.env v = (do
      let ov ← holding [v] (eval (.Name x pp) X.env)
      let iv ← holding [v, ov] (eval (.Constant (.int j) jj pi) X.env)
      standAt pos
      holding [v, ov, iv] (setItem ov iv v)
      release [v, ov, iv] []) := by intro _; rfl)
    (hs : (assignEach [.Subscript (.Name x pp) (.Constant (.int j) jj pi) pos, .Name y py] X.env).map (·.2) = assign (.Subscript (.Name x pp) (.Constant (.int j) jj pi) pos) X.env :: (assignEach [.Name y py] X.env).map (·.2) := by rfl)
    (hs2 : (assignEach [.Name y py] X.env).map (·.2) = assign (.Name y py) X.env :: (assignEach [] X.env).map (·.2) := by rfl)
    (hn : (assignEach [.Subscript (.Name x pp) (.Constant (.int j) jj pi) pos, .Name y py] X.env).length = 2 := by rfl) (hst : (assignEach [.Subscript (.Name x pp) (.Constant (.int j) jj pi) pos, .Name y py] X.env).findIdx? (·.1) = none := by rfl) :
    DG X z O (.Tuple [.Subscript (.Name x pp) (.Constant (.int j) jj pi) pos, .Name y py] k ps) (gTup z.K 2 (gCons (gSub (tVar i) (tC (.int j)) rSetL) (gCons (gName f) gNil)))
      (fun d kk ρ => match d with | .tup [.int _, d2] => isW Wl i ρ ∧ kk (ρ.set f (some d2)) | _ => False) :=
  ⟨by rw [← hK]; exact pg_tup hc (pgs_cons (pg_sub (pv i hN hv hd hcd) pe_int set_list ha) (pgs_cons (pg_name hNd hNf hx hfn) pgs_nil hs2) hs) hn hst, fun kp oa σ H ρ d v kk Q s r hm kq => by
    match d, hm with
    | .tup [.int n, d2], hm =>
      simp only [Rep] at r
      obtain ⟨b, xs, rfl, hb, r⟩ := r
      simp only [Reps] at r
      obtain ⟨v1, t1, rfl, r1, v2, t2, rfl, r2, rfl⟩ := r
      simp only [Rep] at r1
      subst r1
      obtain ⟨a, h1, h2⟩ := isW_inv hm.1
      obtain ⟨v, e1', e2⟩ := s.env i _ hi h1
      simp only [Rep] at e2
      subst e2
      refine ⟨b, _, rfl, hb.sq, rfl, .int n, [v2], rfl, .ref a, e1', ?_⟩
      refine well_set W s.j h2 h0 h3 fun H2 e2 j2 => ⟨v2, [], rfl, rfl, ?_⟩
      exact kq oa _ H2 _ ((s.step e2 j2).set hf (r2.ext e2 s.gu)) hm.2⟩
end
end DL

/-! DPurse: what the program's looks at values and its purses promise, where they are right. -/
namespace DL
open PySem PySem.Spec PyProof.Rows L2
def sp_is_whole : FS := fun ds Q E => ∃ i : Int, ds = [.int i] ∧ Q (.bl true)
def sp_is_between : FS := fun ds Q E => ∃ i a b : Int, ds = [.int i, .int a, .int b] ∧ Q (.bl (decide (a ≤ i ∧ i ≤ b)))
def sp_is_up_to : FS := fun ds Q E => ∃ i b : Int, ds = [.int i, .int b] ∧ Q (.bl (decide (0 ≤ i ∧ i ≤ b)))
def sp_is_one_of : FS := fun ds Q E => ∃ (x : Str) (ws : List D), ds = [.str x, .tup ws] ∧ ws.all isFlat = true ∧ Q (.bl (inD (.str x) ws))
/-! ### words, names -/
def lowerB (c : Nat) : Bool := Nat.ble 97 c && Nat.ble c 122
abbrev LET : Str := "abcdefghijklmnopqrstuvwxyz"
theorem letter_all : ((List.range 26).all fun i => inS ⟨#[97 + i]⟩ LET) = true := by decide +kernel
theorem letter_in {c : Nat} (h : lowerB c = true) : inS ⟨#[c]⟩ LET = true := by
  unfold lowerB at h
  simp only [Bool.and_eq_true, Nat.ble_eq] at h
  have := List.all_eq_true.mp letter_all (c - 97) (List.mem_range.mpr (by omega))
  rwa [show 97 + (c - 97) = c by omega] at this
def WordOk (x : Str) : Prop := ∀ c ∈ x.cps.toList, lowerB c = true
def sp_is_word : FS := fun ds Q E => ∃ x : Str, ds = [.str x] ∧ WordOk x ∧ 0 < x.length ∧ x.length ≤ 1000 ∧ Q (.bl true)
theorem signs_mem {x : Str} {d : D} (h : d ∈ signs x) : ∃ c ∈ x.cps.toList, d = .str ⟨#[c]⟩ := by
  obtain ⟨c, hc, e⟩ := List.mem_map.mp h
  exact ⟨c, hc, e.symm⟩
theorem signs_small {x : Str} (h : x.length ≤ 1000) : (signs x).length ≤ sizeLine := by
  unfold signs
  rw [List.length_map, Array.length_toList, sizeLine_eq]
  have : x.cps.size = x.length := rfl
  omega
theorem word_ne {x : Str} (h : 0 < x.length) : eqD (.str x) (.str "") = false := by
  unfold eqD
  refine beq_eq_false_iff_ne.mpr fun e => ?_
  subst e
  exact absurd h (by decide)
theorem bls_rep {n : Nat} : blsOf (List.replicate n (D.bl true)) = some (List.replicate n true) := by
  have := blsOf_map (List.replicate n true)
  rwa [List.map_replicate] at this
theorem all_rep (n : Nat) : (List.replicate n true).all _root_.id = true := by
  rw [List.all_eq_true]
  intro b hb
  exact (List.mem_replicate.mp hb).2
theorem all_true {n : Nat} (Q : D → Prop) (E : DX → Prop) (k : Q (.bl true)) : mAll (.lst (List.replicate n (D.bl true))) Q E := by
  show (match blsOf (List.replicate n (D.bl true)) with | some bs => Q (.bl (bs.all _root_.id)) | none => False)
  rw [bls_rep]
  show Q (.bl ((List.replicate n true).all _root_.id))
  rw [all_rep]
  exact k
theorem int_ne {a b : Int} (h : a ≠ b) : eqD (.int a) (.int b) = false := by
  unfold eqD
  exact beq_eq_false_iff_ne.mpr h
theorem int_eq {a b : Int} (h : a = b) : eqD (.int a) (.int b) = true := by
  unfold eqD
  exact beq_iff_eq.mpr h
theorem cut_to {α : Type} {xs : List α} {i : Nat} (h : i ≤ xs.length) : cutD xs none (some (0 + (i : Int))) = xs.take i := by
  unfold cutD
  rw [Int.zero_add, HT.sIx_none, HT.sIx_nat, List.drop_zero, Nat.sub_zero, Nat.min_eq_left h]
/-- the words that are no names -/
def wordsD : List D := [.str "all", .str "award", .str "book", .str "case", .str "claim", .str "class", .str "deal", .str "even", .str "game", .str "halves", .str "in", .str "losses", .str "none", .str "of", .str "open", .str "orders", .str "out", .str "pay", .str "people", .str "purse", .str "quit", .str "rank", .str "rule", .str "shares", .str "strike", .str "undo", .str "yes"]
structure NameOk (x : Str) : Prop where
  w : WordOk x
  p : 0 < x.length
  l : x.length ≤ 8
  n : inD (.str x) wordsD = false
def sp_is_name : FS := fun ds Q E => ∃ x : Str, ds = [.str x] ∧ NameOk x ∧ Q (.bl true)
/-! ### in order -/
def sp_are_below : FS := fun ds Q E => ∃ (xs : List Str) (y : Str), ds = [.tup (xs.map D.str), .str y] ∧ (∀ x ∈ xs, PyData.strOk x = true) ∧ (xs = [] ∨ ∃ z, xs.getLast? = some z ∧ strLt z y = true) ∧ Q (.bl true)
theorem plains_strs : ∀ {xs : List Str}, (∀ x ∈ xs, PyData.strOk x = true) → plains (xs.map D.str) = true
  | [], _ => rfl
  | x :: r, h => by
    simp only [List.map_cons, plains, plain, Bool.and_eq_true]
    exact ⟨h x List.mem_cons_self, plains_strs fun y hy => h y (List.mem_cons_of_mem _ hy)⟩
theorem deps_strs : ∀ {xs : List Str}, deps (xs.map D.str) = 0
  | [] => rfl
  | x :: r => by simp [deps, dep, deps_strs]
theorem strs_eqOk {xs : List Str} (h : ∀ x ∈ xs, PyData.strOk x = true) : EqOk (.tup (xs.map D.str)) (.tup []) := by
  refine ⟨?_, rfl, ?_, by decide⟩
  · simp only [plain]; exact plains_strs h
  · simp only [dep, deps_strs]; decide
theorem strs_ne {xs : List Str} {z : Str} (h : xs.getLast? = some z) : eqD (.tup (xs.map D.str)) (.tup []) = false := by
  cases xs with
  | nil => simp at h
  | cons x r => rfl
theorem at_last {xs : List Str} {z : Str} (h : xs.getLast? = some z) : atI (xs.map D.str) (-1) = some (.str z) := by
  have hl : 0 < xs.length := by
    cases xs with
    | nil => simp at h
    | cons x r => simp
  unfold atI ixN
  rw [if_neg (by decide), List.length_map, if_pos (by omega)]
  show (xs.map D.str)[((-1 : Int) + (xs.length : Int)).toNat]? = _
  rw [show ((-1 : Int) + (xs.length : Int)).toNat = xs.length - 1 by omega, List.getElem?_map, ← List.getLast?_eq_getElem?, h]
  rfl
def sp_is_tuple_of : FS := fun ds Q E => ∃ (xs : List D) (m : Int), ds = [.tup xs, .int m] ∧ Q (.bl ((xs.length : Int) == m))
/-- nothing is wrong in it -/
def sp_wrong_in (fL : Addr) (spL : FS) : FS := fun ds Q E => ∃ (xs : List D) (least most : Int), ds = [.tup xs, .int least, .int most, .obj fL] ∧ least ≤ xs.length ∧ (xs.length : Int) ≤ most ∧
  (∀ i x, xs[i]? = some x → ∀ (k : D → Prop), k (.bl true) → spL [.tup (xs.take i), x] k E) ∧ Q (.lst [])
def sp_wrong_in_all (fL : Addr) (spL : FS) : FS := fun ds Q E => ∃ (xs : List D), ds = [.tup xs, .int xs.length, .obj fL] ∧ (∀ x ∈ xs, ∀ (k : D → Prop), k (.bl true) → spL [x] k E) ∧ Q (.lst [])

theorem strOk_of {x : Str} (h : WordOk x) (hl : x.length ≤ 1000) : PyData.strOk x = true := by
  unfold PyData.strOk
  rw [Array.all_eq_true_iff_forall_mem]
  intro c hc
  have := h c (Array.mem_toList_iff.mpr hc)
  unfold lowerB at this
  simp only [Bool.and_eq_true, Nat.ble_eq] at this
  exact decide_eq_true (by omega)
theorem NameOk.str {x : Str} (h : NameOk x) : PyData.strOk x = true := strOk_of h.w (by have := h.l; omega)
/-- people, as a purse wants them -/
structure PeopleOk (ns : List Str) : Prop where
  p : 1 ≤ ns.length
  l : ns.length ≤ 6
  n : ∀ x ∈ ns, NameOk x
  o : ns.Pairwise fun x y => strLt x y = true
theorem PeopleOk.before {ns : List Str} (h : PeopleOk ns) {i : Nat} {y : Str} (e : ns[i]? = some y) : ns.take i = [] ∨ ∃ z, (ns.take i).getLast? = some z ∧ strLt z y = true := by
  cases i with
  | zero => exact .inl rfl
  | succ i =>
    have hi := (List.getElem?_eq_some_iff.mp e).1
    have ez : ns[i]? = some ns[i] := List.getElem?_eq_getElem (by omega)
    refine .inr ⟨ns[i], ?_, ?_⟩
    · rw [List.getLast?_eq_getElem?, List.length_take, List.getElem?_take_of_lt (by omega), show min (i + 1) ns.length - 1 = i by omega]
      exact ez
    · have ey : ns[i + 1] = y := by
        rw [List.getElem?_eq_getElem hi] at e
        exact Option.some.inj e
      rw [← ey]
      exact List.pairwise_iff_getElem.mp h.o i (i + 1) (by omega) hi (by omega)
def sp_wrong_in_people : FS := fun ds Q E => ∃ ns : List Str, ds = [.tup (ns.map D.str)] ∧ PeopleOk ns ∧ Q (.lst [])
def sp_wrong_in_claims : FS := fun ds Q E => ∃ (ps : List D) (cs : List Int), ds = [.tup ps, .tup (cs.map D.int)] ∧ cs.length = ps.length ∧ (∀ c ∈ cs, 0 ≤ c ∧ c ≤ 99) ∧ Q (.lst [])
def sp_check_number : FS := fun ds Q E => ∃ n a b : Int, ds = [.int n, .int a, .int b] ∧ a ≤ n ∧ n ≤ b ∧ Q .non
/-- a purse's parts -/
structure PurseOk (ns : List Str) (cs : List Int) (m : Int) : Prop where
  pe : PeopleOk ns
  cl : cs.length = ns.length
  c : ∀ c ∈ cs, 0 ≤ c ∧ c ≤ 99
  m0 : 0 ≤ m
  m1 : m ≤ cs.sum
abbrev partsD (ns : List Str) (cs : List Int) (m : Int) : D := .tup [.tup (ns.map D.str), .tup (cs.map D.int), .int m]
abbrev purseD (C : Addr) (ns : List Str) (cs : List Int) (m : Int) : D := .ins C ["all_told"] [partsD ns cs m]
def sp_Purse : FS := fun ds Q E => ∃ ns cs m, ds = [.tup (ns.map D.str), .tup (cs.map D.int), .int m] ∧ PurseOk ns cs m ∧ Q (partsD ns cs m)

def sp_check_purse (C : Addr) : FS := fun ds Q E => ∃ ks fs, ds = [.ins C ks fs] ∧ Q .non
def rulesD : List D := [.str "even", .str "losses", .str "shares", .str "halves", .str "orders"]
def sp_check_rule : FS := fun ds Q E => ∃ x : Str, ds = [.str x] ∧ inD (.str x) rulesD = true ∧ Q .non
def sp_check_rules (C : Addr) : FS := fun ds Q E => ∃ (x : Str) (ks : List Str) (fs : List D), ds = [.ins C ks fs, .str x] ∧ inD (.str x) rulesD = true ∧ Q .non

theorem three_le : 3 ≤ sizeLine := by rw [sizeLine_eq]; decide
/-- a part of a purse -/
def sp_part (C : Addr) (i : Nat) : FS := fun ds Q E => ∃ ns cs m, ds = [purseD C ns cs m] ∧ Q (match i with | 0 => .tup (ns.map D.str) | 1 => .tup (cs.map D.int) | _ => .int m)

theorem mInts_tup {C : List Int → Prop} {R : List Int → Int → Prop} {cs : List Int} {Q : D → Prop} {E : DX → Prop} : mInts C R (.tup (cs.map D.int)) Q E = (C cs ∧ ∀ m, R cs m → Q (.int m)) := by
  show (match intsOf (cs.map D.int) with | some ns => C ns ∧ ∀ m, R ns m → Q (.int m) | none => False) = _
  rw [intsOf_map]
theorem mInts_lst {C : List Int → Prop} {R : List Int → Int → Prop} {cs : List Int} {Q : D → Prop} {E : DX → Prop} : mInts C R (.lst (cs.map D.int)) Q E = (C cs ∧ ∀ m, R cs m → Q (.int m)) := by
  show (match intsOf (cs.map D.int) with | some ns => C ns ∧ ∀ m, R ns m → Q (.int m) | none => False) = _
  rw [intsOf_map]

def sp_claims_of (C : Addr) : FS := fun ds Q E => ∃ ns cs m, ds = [purseD C ns cs m] ∧ cs.length ≤ 100 ∧ Q (.lst (cs.map fun (c : Int) => rD (c : Rat)))
theorem eqD_rD (p q : Rat) : eqD (rD p) (rD q) = decide (p = q) := by
  simp only [eqD, eqDs, Bool.and_true]
  rw [Bool.eq_iff_iff]
  simp only [Bool.and_eq_true, beq_iff_eq, decide_eq_true_eq]
  constructor
  · rintro ⟨h1, h2⟩
    exact Rat.ext h1 (by omega)
  · rintro rfl
    exact ⟨rfl, rfl⟩
theorem EqOk_rD (p q : Rat) : EqOk (rD p) (rD q) = True := by
  simp only [EqOk, plain, plains, dep, deps]
  simp
/-- the fraction of such data -/
def ofD : D → Rat
  | .tup [.int n, .int m] => Rat.divInt n m
  | _ => 0
theorem ofD_rD (q : Rat) : ofD (rD q) = q := Rat.num_divInt_den q
def sp_shares_by : FS := fun ds Q E => ∃ (qs : List Rat) (m : Rat), ds = [.lst (qs.map rD), rD m] ∧ (∀ q ∈ qs, Bd 100 q) ∧ qs.length ≤ 12 ∧ Bd 100 m ∧ Q (.tup (qs.map fun q => rD (q * if qs.sum = 0 then 0 else m / qs.sum)))
def sp_by_rule (T : Str → Option FS) : FS := fun ds Q E => ∃ (y : Str) (a b : D) (sp : FS), ds = [.str y, a, b] ∧ T y = some sp ∧ sp [a, b] Q E
def sp_awards_of (C : Addr) (T : Str → Option FS) : FS := fun ds Q E => ∃ ns cs m y sp, ds = [purseD C ns cs m, .str y] ∧ cs.length ≤ 100 ∧ T y = some sp ∧ sp [.lst (cs.map fun (c : Int) => rD (c : Rat)), rD (m : Rat)] Q E
def sp_awards_by (C : Addr) (T : Str → Option FS) : FS := fun ds Q E => ∃ ns cs m y sp, ds = [purseD C ns cs m, .str y] ∧ cs.length ≤ 100 ∧ inD (.str y) rulesD = true ∧ T y = some sp ∧ sp [.lst (cs.map fun (c : Int) => rD (c : Rat)), rD (m : Rat)] Q E
/-- the promises of the rules by their names -/
abbrev RuleT := List (Str × FS)
def RuleT.get (r : RuleT) : Str → Option FS := fun y => r.lookup y

/-! ### what the law's helpers promise -/
/-- a draw: any number below the limit -/
def sp_draw (Wl : Addr → Prop) : FS := fun ds Q E => ∃ (a : Addr) (l : Int), ds = [.obj a, .int l] ∧ Wl a ∧ 0 < l ∧ l < 1073741824 ∧ ∀ r : Int, 0 ≤ r → r < l → Q (.int r)
/-- the items that may be drawn -/
def itemsD : D → Option (List D)
  | .tup ds => some ds
  | .lst ds => some ds
  | .str x => if x.length ≤ 1000 then some (signs x) else none
  | _ => none
def sp_of (Wl : Addr → Prop) : FS := fun ds Q E => ∃ (a : Addr) (d : D) (xs : List D), ds = [.obj a, d] ∧ Wl a ∧ itemsD d = some xs ∧ 0 < xs.length ∧ xs.length ≤ 100000 ∧ ∀ x ∈ xs, Q x
end DL

/-! DLaw: what a law's helpers promise: words, names, purses, awards. -/
namespace DL
open PySem PySem.Spec PyProof.Rows L2
theorem len_items {d : D} {xs : List D} (h : itemsD d = some xs) (Q : D → Prop) (E : DX → Prop) : mLen d Q E = Q (.int xs.length) := by
  cases d with
  | tup ds => cases h; rfl
  | lst ds => cases h; rfl
  | str x =>
    have h : (if x.length ≤ 1000 then some (signs x) else none) = some xs := h
    by_cases hx : x.length ≤ 1000
    · rw [if_pos hx] at h
      cases h
      have e : (signs x).length = x.length := by unfold signs; rw [List.length_map, Array.length_toList]; rfl
      show (x.length ≤ sizeLine ∧ Q (.int x.length)) = _
      rw [e, sizeLine_eq, eq_iff_iff]
      exact ⟨fun z => z.2, fun z => ⟨by omega, z⟩⟩
    · rw [if_neg hx] at h; cases h
  | _ => cases h
theorem atI_nat {α : Type} {xs : List α} {r : Int} (h0 : 0 ≤ r) (h1 : r < xs.length) : ∃ x, x ∈ xs ∧ xs[r.toNat]? = some x ∧ atI xs r = some x := by
  have hi : r.toNat < xs.length := by omega
  refine ⟨xs[r.toNat], List.getElem_mem hi, List.getElem?_eq_getElem hi, ?_⟩
  unfold atI ixN
  rw [if_pos h0, if_pos h1]
  exact List.getElem?_eq_getElem hi
theorem ix_items {d : D} {xs : List D} (h : itemsD d = some xs) {r : Int} (h0 : 0 ≤ r) (h1 : r < xs.length) {Q : D → Prop} {E : DX → Prop} (k : ∀ x ∈ xs, Q x) : mIx d (.int r) Q E := by
  cases d with
  | tup ds =>
    cases h
    obtain ⟨x, hm, _, e⟩ := atI_nat h0 h1
    show (match atI _ r with | some d => Q d | none => False)
    rw [e]
    exact k x hm
  | lst ds =>
    cases h
    obtain ⟨x, hm, _, e⟩ := atI_nat h0 h1
    show (match atI _ r with | some d => Q d | none => False)
    rw [e]
    exact k x hm
  | str x =>
    have h : (if x.length ≤ 1000 then some (signs x) else none) = some xs := h
    by_cases hx : x.length ≤ 1000
    · rw [if_pos hx] at h
      cases h
      have e : (signs x).length = x.cps.toList.length := by unfold signs; rw [List.length_map]
      rw [e] at h1
      obtain ⟨c, hm, _, e⟩ := atI_nat h0 h1
      show x.length ≤ sizeLine ∧ (match atI x.cps.toList r with | some c => Q (.str ⟨#[c]⟩) | none => False)
      rw [e, sizeLine_eq]
      exact ⟨by omega, k _ (List.mem_map.mpr ⟨c, hm, rfl⟩)⟩
    · rw [if_neg hx] at h; cases h
  | _ => cases h
theorem lcW_some {mg : D → (DEnv → Prop) → DEnv → Prop} {me : DEnv → M D} {ρ : DEnv} {P : D → D → Prop} {Q : List D → Prop} : ∀ (items acc : List D), (∀ d ∈ items, ∀ k : D → Prop, (∀ y, P d y → k y) → mg d (fun ρ' => me ρ' k fun _ => False) ρ) → (∀ ys : List D, ys.length = items.length → (∀ (i : Nat) (d y : D), items[i]? = some d → ys[i]? = some y → P d y) → Q (acc ++ ys)) →
    lcW mg (fun _ => DL.ret true) me ρ acc items Q
  | [], acc, _, hq => by
    have := hq [] rfl (fun i d y h => by simp at h)
    simpa [lcW] using this
  | d :: r, acc, h, hq => by
    have go : ∀ y, P d y → lcW mg (fun _ => DL.ret true) me ρ (acc ++ [y]) r Q := fun y hy => lcW_some (P := P) r (acc ++ [y]) (fun d hd => h d (List.mem_cons_of_mem _ hd)) fun ys hl hp => by
      have := hq (y :: ys) (by simp [hl]) fun i d' y' e1 e2 => by
        cases i with
        | zero =>
          simp only [List.getElem?_cons_zero] at e1 e2
          cases e1
          cases e2
          exact hy
        | succ i => exact hp i d' y' (by simpa using e1) (by simpa using e2)
      simpa using this
    have := h d List.mem_cons_self (fun v => lcW mg (fun _ => DL.ret true) me ρ (acc ++ [v]) r Q) go
    unfold lcW
    simpa [DL.ret] using this
theorem rangeD_get {lo : Int} {n i : Nat} (h : i < n) : (rangeD lo n)[i]? = some (.int (lo + (i : Int))) := by
  unfold rangeD
  rw [List.getElem?_map, List.getElem?_range h]
  rfl
theorem all_flat_strs : ∀ {xs : List Str}, (xs.map D.str).all isFlat = true
  | [] => rfl
  | x :: r => by rw [List.map_cons, List.all_cons, all_flat_strs]; rfl
theorem wordOk_nil : WordOk "" := fun c hc => by
  have e : ("" : Str).cps.toList = [] := rfl
  rw [e] at hc
  exact (List.not_mem_nil hc).elim
/-- one statement at a time -/
theorem seqI {m n : MS} {κ : DK} {E : DX → Prop} {ρ : DEnv} (h : ∀ N : DEnv → Prop, (∀ ρ', n κ E ρ' → N ρ') → m { κ with nx := N } E ρ) : mSeq m n κ E ρ := h _ fun _ h => h
def sp_words (ws : List Str) : FS := fun ds Q E => ds = [] ∧ Q (.lst (ws.map D.str))
theorem inD_strs {x : Str} : ∀ {ws : List Str}, inD (.str x) (ws.map D.str) = decide (x ∈ ws)
  | [] => rfl
  | w :: r => by
    have ih := inD_strs (x := x) (ws := r)
    unfold inD at *
    rw [List.map_cons, List.any_cons, ih]
    have e : eqD (.str w) (.str x) = decide (x = w) := by
      unfold eqD
      rw [Bool.eq_iff_iff, beq_iff_eq, decide_eq_true_iff, eq_comm]
    first
    | rw [e, Bool.eq_iff_iff]; simp [List.mem_cons]; done
    | trace_state; skip

/-! ### names made -/
theorem toList_app (x y : Str) : (x ++ y).cps.toList = x.cps.toList ++ y.cps.toList := Array.toList_append
theorem str_len (x : Str) : x.length = x.cps.toList.length := (Array.length_toList).symm
theorem WordOk.app {x y : Str} (hx : WordOk x) (hy : WordOk y) : WordOk (x ++ y) := fun c hc => by
  rw [toList_app] at hc
  exact (List.mem_append.mp hc).elim (hx c) (hy c)
theorem len_app (x y : Str) : (x ++ y).length = x.length + y.length := by
  rw [str_len, str_len, str_len, toList_app, List.length_append]
theorem cut_front (x : Str) {k : Nat} (h : k ≤ x.length) : (cutS x none (some (k : Int))).cps.toList = x.cps.toList.take k := by
  unfold cutS
  rw [HT.sIx_none, HT.sIx_nat, List.drop_zero, Nat.sub_zero, Nat.min_eq_left h]
theorem cut_back (x : Str) {k : Nat} (h : k ≤ x.length) : (cutS x (some (k : Int)) none).cps.toList = x.cps.toList.drop k := by
  unfold cutS
  rw [HT.sIx_none, HT.sIx_nat, Nat.min_eq_left h]
  show ((x.cps.toList.drop k).take (x.length - k)) = _
  rw [List.take_of_length_le]
  rw [List.length_drop, ← str_len]
  exact Nat.le_refl _
/-- the letter of a turn -/
abbrev let1 (i : Nat) : Str := ⟨#[97 + i]⟩
theorem let_ok {i : Nat} (h : i < 26) : WordOk (let1 i) := fun c hc => by
  have : c = 97 + i := by simpa [let1] using hc
  subst this
  simp [lowerB]; omega
/-- x[:k] + letter + x[k:] -/
abbrev putIn (x : Str) (k i : Nat) : Str := cutS x none (some (k : Int)) ++ let1 i ++ cutS x (some (k : Int)) none
theorem putIn_len {x : Str} {k : Nat} (i : Nat) (h : k ≤ x.length) : (putIn x k i).length = x.length + 1 := by
  rw [str_len, toList_app, toList_app, cut_front x h, cut_back x h, List.length_append, List.length_append, List.length_take, List.length_drop, str_len x]
  rw [str_len] at h
  show min k _ + 1 + _ = _
  omega
theorem putIn_ok {x : Str} {k i : Nat} (h : k ≤ x.length) (hi : i < 26) (hx : WordOk x) : WordOk (putIn x k i) := fun c hc => by
  rw [toList_app, toList_app, cut_front x h, cut_back x h] at hc
  rcases List.mem_append.mp hc with hc | hc
  · rcases List.mem_append.mp hc with hc | hc
    · exact hx c (List.mem_of_mem_take hc)
    · exact let_ok hi c hc
  · exact hx c (List.mem_of_mem_drop hc)
theorem putIn_mem {x : Str} {k : Nat} (i : Nat) (h : k ≤ x.length) : 97 + i ∈ (putIn x k i).cps.toList := by
  rw [toList_app, toList_app]
  exact List.mem_append.mpr (.inl (List.mem_append.mpr (.inr (by simp [let1]))))
/-- the names found so far -/
structure Found (fs : List Str) : Prop where
  ok : ∀ x ∈ fs, NameOk x
  has : ∀ (i : Nat) x, fs[i]? = some x → 97 + i ∈ x.cps.toList
  nd : fs.Nodup
theorem Found.nil : Found [] := ⟨fun _ h => (List.not_mem_nil h).elim, fun _ _ h => by simp at h, List.nodup_nil⟩
theorem Found.add {fs : List Str} {x : Str} (h : Found fs) (hx : NameOk x) (hc : 97 + fs.length ∈ x.cps.toList) (hn : x ∉ fs) : Found (fs ++ [x]) := by
  refine ⟨fun y hy => ?_, fun i y e => ?_, ?_⟩
  · rcases List.mem_append.mp hy with hy | hy
    · exact h.ok y hy
    · rw [List.mem_singleton.mp hy]; exact hx
  · by_cases hi : i < fs.length
    · rw [List.getElem?_append_left hi] at e
      exact h.has i y e
    · rw [List.getElem?_append_right (by omega)] at e
      have : i - fs.length = 0 := by
        have := (List.getElem?_eq_some_iff.mp e).1
        simp at this
        omega
      rw [this] at e
      cases e
      rw [show i = fs.length by omega]
      exact hc
  · rw [List.nodup_append]
    exact ⟨h.nd, List.pairwise_singleton _ _, fun a ha b hb e => hn (by rw [← List.mem_singleton.mp hb, ← e]; exact ha)⟩
/-- the letter eight times -/
abbrev let8 (i : Nat) : Str := strRep (let1 i) 8
theorem let8_eq (i : Nat) : (let8 i).cps.toList = List.replicate 8 (97 + i) := by
  simp [strRep, List.replicate]
theorem let8_ok {i : Nat} (h : i < 6) : NameOk (let8 i) := by
  refine ⟨fun c hc => ?_, ?_, ?_, ?_⟩
  · rw [let8_eq] at hc
    rw [(List.mem_replicate.mp hc).2]
    simp [lowerB]; omega
  · rw [str_len, let8_eq, List.length_replicate]; decide
  · rw [str_len, let8_eq, List.length_replicate]; decide
  · have : i = 0 ∨ i = 1 ∨ i = 2 ∨ i = 3 ∨ i = 4 ∨ i = 5 := by omega
    rcases this with rfl | rfl | rfl | rfl | rfl | rfl <;> decide +kernel
theorem Found.new8 {fs : List Str} (h : Found fs) (hl : fs.length < 6) : Found (fs ++ [let8 fs.length]) := by
  refine h.add (let8_ok hl) (by rw [let8_eq]; simp) fun hm => ?_
  obtain ⟨i, hi, e⟩ := List.getElem_of_mem hm
  have := h.has i _ (List.getElem?_eq_getElem hi)
  rw [e, let8_eq] at this
  have := (List.mem_replicate.mp this).2
  omega
/-- what stands at a place of the letters -/
theorem let_at {i : Nat} (h : i < 6) : atI LET.cps.toList (0 + (i : Int)) = some (97 + i) := by
  have : i = 0 ∨ i = 1 ∨ i = 2 ∨ i = 3 ∨ i = 4 ∨ i = 5 := by omega
  rcases this with rfl | rfl | rfl | rfl | rfl | rfl <;> decide +kernel
theorem sign_ok {d : D} (h : d ∈ signs LET) : ∃ x : Str, d = .str x ∧ WordOk x ∧ x.length = 1 := by
  obtain ⟨c, hc, rfl⟩ := signs_mem h
  refine ⟨_, rfl, fun u hu => ?_, rfl⟩
  have : u = c := by simpa using hu
  subst this
  have hall : (LET.cps.toList.all lowerB) = true := by decide +kernel
  exact List.all_eq_true.mp hall u hc
/-! ### sorted names -/
theorem lt_of_not {x p : Str} (h : strLt x p = false) (hn : p ≠ x) : strLt p x = true := by
  simp only [decide_eq_false_iff_not, decide_eq_true_eq] at *
  rcases Std.lt_trichotomy (α := List Nat) p.cps.toList x.cps.toList with h' | h' | h'
  · exact h'
  · exact absurd (by cases p; cases x; simp only [Str.mk.injEq]; exact Array.toList_inj.mp h') hn
  · exact absurd h' h
theorem lt_tr {x y u : Str} (h : strLt x y = true) (h' : strLt y u = true) : strLt x u = true := by
  simp only [decide_eq_true_eq] at *
  exact List.lt_trans h h'
theorem rising_lt : ∀ (l : List Str) (p : Str), risingS p l = true → (p :: l).Nodup → (p :: l).Pairwise fun x y => strLt x y = true
  | [], p, _, _ => List.pairwise_singleton _ _
  | x :: r, p, h, hn => by
    simp only [risingS, Bool.and_eq_true, Bool.not_eq_true', ltCps_eq] at h
    have hn' := List.nodup_cons.mp hn
    have ih := rising_lt r x h.2 hn'.2
    have hpx : strLt p x = true := lt_of_not h.1 fun e => hn'.1 (by rw [e]; exact List.mem_cons_self)
    refine List.pairwise_cons.mpr ⟨fun y hy => ?_, ih⟩
    rcases List.mem_cons.mp hy with rfl | hm
    · exact hpx
    · exact lt_tr hpx ((List.pairwise_cons.mp ih).1 y hm)
theorem sorted_lt {l : List Str} (h : sortedS l = true) (hn : l.Nodup) : l.Pairwise fun x y => strLt x y = true := by
  cases l with
  | nil => exact List.Pairwise.nil
  | cons x r => exact rising_lt r x h hn
theorem Found.people {fs ns : List Str} (h : Found fs) (h1 : 1 ≤ fs.length) (h6 : fs.length ≤ 6) (hp : ns.Perm fs) (hs : sortedS ns = true) : PeopleOk ns :=
  ⟨by rw [hp.length_eq]; exact h1, by rw [hp.length_eq]; exact h6, fun x hx => h.ok x (hp.mem_iff.mp hx), sorted_lt hs (hp.nodup_iff.mpr h.nd)⟩
def sp_names (Wl : Addr → Prop) : FS := fun ds Q E => ∃ (a : Addr) (n : Nat), ds = [.obj a, .int n] ∧ Wl a ∧ 1 ≤ n ∧ n ≤ 6 ∧ ∀ ns : List Str, PeopleOk ns → ns.length = n → Q (.tup (ns.map D.str))
def wordsS : List Str := ["all", "award", "book", "case", "claim", "class", "deal", "even", "game", "halves", "in", "losses", "none", "of", "open", "orders", "out", "pay", "people", "purse", "quit", "rank", "rule", "shares", "strike", "undo", "yes"]
theorem wordsD_eq : wordsD = wordsS.map D.str := rfl
theorem no_word {x : Str} {ws own : List Str} (hall : (wordsS.all fun u => decide (u ∈ ws) || decide (u ∈ own)) = true) (h1 : inD (.str x) (ws.map D.str) = false) (h2 : inD (.str x) (own.map D.str) = false) : inD (.str x) wordsD = false := by
  rw [wordsD_eq, inD_strs, decide_eq_false_iff_not]
  rw [inD_strs, decide_eq_false_iff_not] at h1 h2
  intro hm
  have := List.all_eq_true.mp hall x hm
  simp only [Bool.or_eq_true, decide_eq_true_eq] at this
  exact this.elim h1 h2
/-! ### purses made -/
def sp_lawpurse (Wl : Addr → Prop) : FS := fun ds Q E => ∃ (a : Addr) (n : Nat), ds = [.obj a, .int n] ∧ Wl a ∧ 1 ≤ n ∧ n ≤ 6 ∧ ∀ (ns : List Str) (cs : List Int) (m : Int), PurseOk ns cs m → ns.length = n → Q (partsD ns cs m)
def sp_made (C : Addr) : FS := fun ds Q E => ∃ ns cs m, ds = [partsD ns cs m] ∧ PurseOk ns cs m ∧ Q (purseD C ns cs m)
end DL

/-! DShare: awards by shares; what the law's looks promise. -/
namespace DL
open PySem PySem.Spec PyProof.Rows L2
theorem ints_all {P : Int → Prop} : ∀ {ys : List D}, (∀ y ∈ ys, ∃ c : Int, y = .int c ∧ P c) → ∃ cs : List Int, ys = cs.map D.int ∧ ∀ c ∈ cs, P c
  | [], _ => ⟨[], rfl, fun _ h => (List.not_mem_nil h).elim⟩
  | y :: r, h => by
    obtain ⟨c, rfl, hc⟩ := h y List.mem_cons_self
    obtain ⟨cs, rfl, hcs⟩ := ints_all fun z hz => h z (List.mem_cons_of_mem _ hz)
    refine ⟨c :: cs, rfl, fun x hx => ?_⟩
    rcases List.mem_cons.mp hx with rfl | hm
    · exact hc
    · exact hcs x hm
theorem sum_bound {b : Int} : ∀ {cs : List Int}, (∀ c ∈ cs, 0 ≤ c ∧ c ≤ b) → 0 ≤ cs.sum ∧ cs.sum ≤ cs.length * b
  | [], _ => by simp
  | c :: r, h => by
    have h1 := sum_bound fun x hx => h x (List.mem_cons_of_mem _ hx)
    have h2 := h c List.mem_cons_self
    rw [List.sum_cons, List.length_cons, Int.natCast_add, Int.add_mul]
    omega
theorem eqOk_int {a b : Int} : EqOk (.int a) (.int b) := by simp [EqOk, plain, dep]
theorem eqOk_str {a b : Str} : EqOk (.str a) (.str b) := by simp [EqOk]
theorem str_ne {a b : Str} (h : a ≠ b) : eqD (.str a) (.str b) = false := by
  unfold eqD
  exact beq_eq_false_iff_ne.mpr h
theorem str_eq {a b : Str} (h : a = b) : eqD (.str a) (.str b) = true := by
  unfold eqD
  exact beq_iff_eq.mpr h
/-! ### what the law's looks promise -/
def sp_is_row : FS := fun ds Q E => ∃ (xs : List D) (a b : Int), ds = [.tup xs, .int a, .int b] ∧ Q (.bl (decide (a ≤ (xs.length : Int) ∧ (xs.length : Int) ≤ b)))
def sp_is_frac : FS := fun ds Q E => ∃ q : Rat, ds = [rD q] ∧ Bd 2000 q ∧ Q (.bl true)
abbrev rats (cs : List Int) : List Rat := cs.map fun (c : Int) => (c : Rat)
/-- the awards by shares -/
def shareOf (cs : List Int) (m : Int) : List Rat := cs.map fun (c : Int) => if 0 < (rats cs).sum then (c : Rat) * (m : Rat) / (rats cs).sum else 0
theorem rats_sum : ∀ cs : List Int, (rats cs).sum = ((cs.sum : Int) : Rat)
  | [] => rfl
  | c :: r => by
    rw [show rats (c :: r) = (c : Rat) :: rats r from rfl, List.sum_cons, List.sum_cons, rats_sum r, Rat.intCast_add]
theorem sum_mulR (k : Rat) : ∀ l : List Rat, (l.map fun x => x * k).sum = l.sum * k
  | [] => by simp
  | x :: r => by rw [List.map_cons, List.sum_cons, List.sum_cons, sum_mulR k r, Rat.add_mul]
theorem cpos {i : Int} : (0 : Rat) < (i : Rat) ↔ 0 < i := by
  rw [show (0 : Rat) = ((0 : Int) : Rat) from rfl, Rat.intCast_lt_intCast]
theorem cnn {i : Int} : (0 : Rat) ≤ (i : Rat) ↔ 0 ≤ i := by
  rw [show (0 : Rat) = ((0 : Int) : Rat) from rfl, Rat.intCast_le_intCast]
theorem shareOf_eq (cs : List Int) (m : Int) : shareOf cs m = (rats cs).map fun q => q * (if 0 < cs.sum then (m : Rat) / (cs.sum : Int) else 0) := by
  unfold shareOf rats
  rw [List.map_map]
  refine List.map_congr_left fun c _ => ?_
  simp only [Function.comp]
  have e := rats_sum cs
  unfold rats at e
  rw [e]
  by_cases h : 0 < cs.sum
  · rw [if_pos (cpos.mpr h), if_pos h, Rat.div_def, Rat.div_def, Rat.mul_assoc]
  · rw [if_neg (fun z => h (cpos.mp z)), if_neg h, Rat.mul_zero]
theorem sum_nn : ∀ {cs : List Int}, (∀ c ∈ cs, 0 ≤ c) → 0 ≤ cs.sum
  | [], _ => by simp
  | c :: r, h => by
    have := sum_nn fun x hx => h x (List.mem_cons_of_mem _ hx)
    have := h c List.mem_cons_self
    rw [List.sum_cons]; omega
theorem sum_zero : ∀ {cs : List Int}, (∀ c ∈ cs, 0 ≤ c) → cs.sum ≤ 0 → ∀ c ∈ cs, c = 0
  | [], _, _, c, hc => (List.not_mem_nil hc).elim
  | c :: r, h, hs, x, hx => by
    have h1 := sum_nn fun x hx => h x (List.mem_cons_of_mem _ hx)
    have h2 := h c List.mem_cons_self
    rw [List.sum_cons] at hs
    rcases List.mem_cons.mp hx with rfl | hm
    · omega
    · exact sum_zero (fun x hx => h x (List.mem_cons_of_mem _ hx)) (by omega) x hm
theorem shareOf_sum {cs : List Int} {m : Int} (m0 : 0 ≤ m) (m1 : m ≤ cs.sum) : (shareOf cs m).sum = (m : Rat) := by
  rw [shareOf_eq, sum_mulR, rats_sum]
  by_cases h : 0 < cs.sum
  · rw [if_pos h, Rat.mul_comm, Rat.div_mul_cancel (Rat.ne_of_gt (cpos.mpr h))]
  · rw [if_neg h, Rat.mul_zero, show m = 0 by omega]
    rfl
theorem share_le {c m s : Int} (h : 0 < s) (hc : 0 ≤ c) (m0 : 0 ≤ m) (m1 : m ≤ s) : 0 ≤ (c : Rat) * ((m : Rat) / (s : Rat)) ∧ (c : Rat) * ((m : Rat) / (s : Rat)) ≤ c := by
  have hs := cpos.mpr h
  have hq : (m : Rat) / s * s = m := Rat.div_mul_cancel (Rat.ne_of_gt hs)
  have h1 : 0 ≤ (m : Rat) / s := by
    refine Rat.not_lt.mp fun hn => ?_
    have := (Rat.div_lt_iff hs).mp hn
    rw [Rat.zero_mul] at this
    exact Rat.not_le.mpr this (cnn.mpr m0)
  have h2 : (m : Rat) / s ≤ 1 := by
    refine Rat.not_lt.mp fun hn => ?_
    have := (Rat.lt_div_iff hs).mp hn
    rw [Rat.one_mul] at this
    exact Rat.not_le.mpr this (Rat.intCast_le_intCast.mpr m1)
  refine ⟨Rat.mul_nonneg (cnn.mpr hc) h1, ?_⟩
  have := Rat.mul_le_mul_of_nonneg_left h2 (cnn.mpr hc)
  rwa [Rat.mul_one] at this
theorem shareOf_get {cs : List Int} {m : Int} {i : Nat} {c : Int} {q : Rat} (e1 : cs[i]? = some c) (e2 : (shareOf cs m)[i]? = some q) : q = (c : Rat) * (if 0 < cs.sum then (m : Rat) / (cs.sum : Int) else 0) := by
  rw [shareOf_eq, List.getElem?_map, List.getElem?_map, e1] at e2
  exact (Option.some.inj e2).symm
theorem shareOf_in {cs : List Int} {m : Int} (h0 : ∀ c ∈ cs, 0 ≤ c) (m0 : 0 ≤ m) (m1 : m ≤ cs.sum) (i : Nat) (c : Int) (q : Rat) (e1 : cs[i]? = some c) (e2 : (shareOf cs m)[i]? = some q) : 0 ≤ q ∧ q ≤ (c : Rat) := by
  rw [shareOf_get e1 e2]
  have hc := h0 c (List.mem_of_getElem? e1)
  by_cases h : 0 < cs.sum
  · rw [if_pos h]
    exact share_le h hc m0 m1
  · rw [if_neg h, Rat.mul_zero]
    exact ⟨Rat.le_refl, cnn.mpr hc⟩
theorem shareOf_length (cs : List Int) (m : Int) : (shareOf cs m).length = cs.length := List.length_map _
theorem sum_double : ∀ cs : List Int, (cs.map fun c => 2 * c).sum = 2 * cs.sum
  | [] => rfl
  | c :: r => by rw [List.map_cons, List.sum_cons, List.sum_cons, sum_double r]; omega
theorem shareOf_double (cs : List Int) (m : Int) : shareOf (cs.map fun c => 2 * c) (2 * m) = (shareOf cs m).map fun q => 2 * q := by
  rw [shareOf_eq, shareOf_eq, sum_double]
  unfold rats
  simp only [List.map_map]
  refine List.map_congr_left fun c _ => ?_
  simp only [Function.comp]
  by_cases h : 0 < cs.sum
  · rw [if_pos (show 0 < 2 * cs.sum by omega), if_pos h, Rat.intCast_mul, Rat.intCast_mul, Rat.intCast_mul]
    have h2 := cpos.mpr h
    generalize ((cs.sum : Int) : Rat) = s at h2
    have hs : s ≠ 0 := Rat.ne_of_gt h2
    generalize (m : Rat) = a
    generalize (c : Rat) = b
    rw [Rat.mul_assoc]
    congr 1
    congr 1
    rw [Rat.div_def, Rat.inv_mul_rev, Rat.div_def]
    rw [show ((2 : Int) : Rat) * a * (s⁻¹ * ((2 : Int) : Rat)⁻¹) = (((2 : Int) : Rat) * ((2 : Int) : Rat)⁻¹) * (a * s⁻¹) by grind]
    rw [Rat.mul_inv_cancel _ (by decide), Rat.one_mul]
  · rw [if_neg (show ¬ 0 < 2 * cs.sum by omega), if_neg h, Rat.mul_zero, Rat.mul_zero, Rat.mul_zero]
/-- the law's own sum by whole numbers -/
theorem share_frac {c m s : Int} : Rat.divInt (c * m) s = (c : Rat) * ((m : Rat) / (s : Rat)) := by
  rw [Rat.divInt_eq_div, Rat.intCast_mul, Rat.div_def, Rat.div_def, Rat.mul_assoc]

theorem Bd.of_int {c : Int} (h : c.natAbs < 2 ^ 100) : Bd 100 (c : Rat) := Bd.int h (by decide)
theorem rats_bd {cs : List Int} (h : ∀ c ∈ cs, 0 ≤ c ∧ c ≤ 1000) : ∀ q ∈ rats cs, Bd 100 q := fun q hq => by
  obtain ⟨c, hc, rfl⟩ := List.mem_map.mp hq
  have := h c hc
  exact Bd.of_int (by omega)
theorem shareOf_bd {cs : List Int} {m : Int} (hc : ∀ c ∈ cs, 0 ≤ c ∧ c ≤ 1000) (hn : cs.length ≤ 6) (h0 : 0 ≤ m) (h1 : m ≤ 10000) : ∀ q ∈ shareOf cs m, Bd 100 q := fun q hq => by
  obtain ⟨c, hc', rfl⟩ := List.mem_map.mp hq
  have hs := sum_bound hc
  have b1 : Bd 20 (c : Rat) := Bd.int (by have := hc c hc'; omega) (by decide)
  have b2 : Bd 20 (m : Rat) := Bd.int (by omega) (by decide)
  have b3 : Bd 20 ((cs.sum : Int) : Rat) := Bd.int (by omega) (by decide)
  rw [rats_sum]
  by_cases h : (0 : Rat) < ((cs.sum : Int) : Rat)
  · rw [if_pos h]
    exact (Bd.div (Rat.ne_of_gt h) (b1.mul b2) b3).mono (by decide)
  · rw [if_neg h]
    exact Bd.zero (by decide)
/-- what the program's rule gives -/
theorem shares_eq {cs : List Int} {m : Int} (h0 : ∀ c ∈ cs, 0 ≤ c) : ((rats cs).map fun q => rD (q * if (rats cs).sum = 0 then 0 else (m : Rat) / (rats cs).sum)) = (shareOf cs m).map rD := by
  rw [shareOf_eq, rats_sum]
  simp only [List.map_map]
  refine List.map_congr_left fun c _ => ?_
  simp only [Function.comp]
  have hs := sum_nn h0
  by_cases h : 0 < cs.sum
  · rw [if_pos h, if_neg (Rat.ne_of_gt (cpos.mpr h))]
  · rw [if_neg h, show cs.sum = 0 by omega]
    rfl
def sp_dealt : FS := fun ds Q E => ∃ (cs : List Int) (m : Int), ds = [.lst (cs.map fun (c : Int) => rD (c : Rat)), rD (m : Rat), .str "shares"] ∧ (∀ c ∈ cs, 0 ≤ c ∧ c ≤ 1000) ∧ cs.length ≤ 6 ∧ (0 ≤ m ∧ m ≤ 10000) ∧ Q (.lst ((shareOf cs m).map rD))
def sp_lawawards : FS := fun ds Q E => ∃ ns cs m, ds = [partsD ns cs m, .str "shares"] ∧ PurseOk ns cs m ∧ Q (.tup ((shareOf cs m).map rD))
def sp_are_awards : FS := fun ds Q E => ∃ (ns : List Str) (cs : List Int) (m : Int) (qs : List Rat), ds = [partsD ns cs m, .tup (qs.map rD)] ∧ PurseOk ns cs m ∧ qs.length = ns.length ∧ (∀ q ∈ qs, Bd 100 q) ∧ (∀ (i : Nat) (c : Int) (q : Rat), cs[i]? = some c → qs[i]? = some q → 0 ≤ q ∧ q ≤ (c : Rat)) ∧ qs.sum = (m : Rat) ∧ Q (.bl true)
theorem num_pos' {q : Rat} (h : 0 < q.num) : 0 < q := by
  rw [Rat.lt_iff]
  simpa using h
theorem rangeD_len {lo : Int} {n : Nat} : (rangeD lo n).length = n := by simp [rangeD]
theorem rangeD_mem {lo : Int} {n : Nat} {d : D} (h : d ∈ rangeD lo n) : ∃ i, i < n ∧ d = .int (lo + (i : Int)) := by
  unfold rangeD at h
  obtain ⟨i, hi, e⟩ := List.mem_map.mp h
  exact ⟨i, List.mem_range.mp hi, e.symm⟩
theorem atI_map {α : Type} {f : α → D} {xs : List α} {i : Nat} {x : α} (h : xs[i]? = some x) : atI (xs.map f) (0 + (i : Int)) = some (f x) := by
  have hi := (List.getElem?_eq_some_iff.mp h).1
  unfold atI ixN
  rw [if_pos (by omega), List.length_map, if_pos (by omega)]
  show (xs.map f)[((0 : Int) + (i : Int)).toNat]? = _
  rw [show ((0 : Int) + (i : Int)).toNat = i by omega, List.getElem?_map, h]
  rfl
theorem fmod_lo {a b : Int} (h : 0 < b) : 0 ≤ a.fmod b := by rw [Int.fmod_eq_emod_of_nonneg _ (by omega)]; exact Int.emod_nonneg _ (by omega)
theorem fmod_hi {a b : Int} (h : 0 < b) : a.fmod b < b := by rw [Int.fmod_eq_emod_of_nonneg _ (by omega)]; exact Int.emod_lt_of_pos _ h
theorem eqOk_nil : EqOk (.lst []) (.lst []) := by simp [EqOk, plain, plains, dep, deps]
theorem eqD_nil : eqD (.lst []) (.lst []) = true := by simp [eqD, eqDs]
/-! ### the same -/
/-- a value of texts, numbers, truths and None in tuples, d deep -/
def PT : Nat → D → Prop
  | _, .non => True
  | _, .bl _ => True
  | _, .int _ => True
  | _, .str _ => True
  | d + 1, .tup xs => xs.length ≤ 1000 ∧ ∀ x ∈ xs, PT d x
  | _, _ => False
def sp_same (d : Nat) : FS := fun ds Q E => ∃ x, ds = [x, x] ∧ PT d x ∧ Q (.bl true)
/-- no item of a comprehension passes its condition -/
theorem lcW_none {mg : D → (DEnv → Prop) → DEnv → Prop} {mc : DEnv → M Bool} {me : DEnv → M D} {ρ : DEnv} {Q : List D → Prop} : ∀ (items acc : List D), (∀ d ∈ items, ∀ k : DEnv → Bool → Prop, (∀ ρ', k ρ' false) → mg d (fun ρ' => mc ρ' (k ρ') fun _ => False) ρ) → Q acc →
    lcW mg mc me ρ acc items Q
  | [], acc, _, hq => by simpa [lcW] using hq
  | d :: r, acc, h, hq => by
    have go : lcW mg mc me ρ acc r Q := lcW_none r acc (fun d hd => h d (List.mem_cons_of_mem _ hd)) hq
    unfold lcW
    exact h d List.mem_cons_self (fun ρ' b => if b = true then me ρ' (fun y => lcW mg mc me ρ (acc ++ [y]) r Q) (fun _ => False) else lcW mg mc me ρ acc r Q) fun ρ' => by rw [if_neg (by decide)]; exact go
end DL

/-! DScr: the script, held at an address that nothing changes; the wells that a law makes of it. -/
namespace DL
open PySem PySem.Spec PyProof.Rows L2
structure ScrJ (g : GG) (K : PySem.W.Frag) (a : Addr) (ns : List Int) : Prop where
  at_ : ∀ H, g.J H → SqL K H a (ns.map V.int)
section
variable {X : Cx} {z : Zc} {a : Addr} {ns : List Int}
theorem inv_obj {K : PySem.W.Frag} {U : Addr → Prop} {H : Hp} {v : V} (h : Rep K U H (.obj a) v) : v = .ref a := by simpa only [Rep] using h
abbrev mLenS (a : Addr) (ns : List Int) (d : D) : M D := fun Q _ => d = .obj a ∧ Q (.int ns.length)
theorem rmLenS (S : ScrJ z.g z.K a ns) : RMn z (rLenD z.K) (m1 (mLenS a ns)) := rmn1 fun U H d x Q Qd E gu hU j ra he h k => by
  obtain ⟨rfl, h⟩ := h
  refine .inl ⟨a, _, by rw [inv_obj ra], .inl (S.at_ H j), ?_⟩
  rw [List.length_map]
  exact k _ _ H h (Ext.refl H) j rep_int
abbrev mIxS (a : Addr) (ns : List Int) (x y : D) : M D := fun Q _ => x = .obj a ∧ match y with | .int i => (match atI ns i with | some v => Q (.int v) | none => False) | _ => False
theorem atI_ints {ns : List Int} {i v : Int} (h : atI ns i = some v) : atI (ns.map V.int) i = some (.int v) := by
  unfold atI at *
  rw [List.length_map]
  cases q : ixN ns.length i with
  | none => rw [q] at h; cases h
  | some j =>
    rw [q] at h
    have h : ns[j]? = some v := h
    show (ns.map V.int)[j]? = _
    rw [List.getElem?_map, h]
    rfl
theorem rmIxS (S : ScrJ z.g z.K a ns) : RM2 z (rIx z.K) (mIxS a ns) := fun U H d e x y Q Qd E gu hU j ra rb he h k => by
  obtain ⟨rfl, h⟩ := h
  cases e with
  | int i =>
    have h : (match atI ns i with | some v => Qd (.int v) | none => False) := h
    cases q : atI ns i with
    | none => rw [q] at h; exact h.elim
    | some v =>
      rw [q] at h
      exact .inl ⟨a, _, i, .int v, inv_obj ra, inv_int rb, S.at_ H j, atI_ints q, k _ _ H h (Ext.refl H) j rep_int⟩
  | _ => exact h.elim
variable {e b : Expr} {ta tb : TE} {ma mb : DEnv → M D} {pos p2 : Pos} {el eu : Option Expr} {tl th : TO} {ml mu : DEnv → M (Option Int)}
theorem de_ixS (S : ScrJ z.g z.K a ns) (hK : X.K = z.K) (ha : DE X z e ta ma) (hb : DE X z b tb mb) (hs : PlainIx b := by exact fun _ _ => rfl) : DE X z (.Subscript e b pos) (tOp (rIx z.K) ta tb) (fun ρ => bnd (ma ρ) fun x => bnd (mb ρ) fun y => mIxS a ns x y) :=
  ⟨by rw [← hK]; exact pe_ix ix_seq ha.pe hb.pe hs, tm_op (rmIxS S) ha.tm hb.tm⟩
abbrev mSlS (a : Addr) (ns : List Int) (x : D) (lo hi : Option Int) : M D := fun Q _ => x = .obj a ∧ Q (.lst ((cutD ns lo hi).map D.int))
theorem cut_ints (lo hi : Option Int) : cutV (ns.map V.int) lo hi = (cutD ns lo hi).map V.int := by
  unfold cutV cutD
  rw [List.length_map, List.map_take, List.map_drop]
theorem tm_sliceS (S : ScrJ z.g z.K a ns) (ha : TMe z ta ma) (hl : TMo z tl ml) (hu : TMo z th mu) : TMe z (tSl (rSlD z.K) ta tl th) (fun ρ => bnd (ma ρ) fun x => bnd (ml ρ) fun l => bnd (mu ρ) fun u => mSlS a ns x l u) := fun U σ H ρ Q Qd E w he h k =>
  ha U σ H ρ _ _ E w he h fun d v H1 h1 e1 j1 r1 => hl U σ H1 ρ _ _ E (w.step e1 j1) he h1 fun l H2 h2 e2 j2 => hu U σ H2 ρ _ _ E ((w.step e1 j1).step e2 j2) he h2 fun u H3 h3 e3 j3 => by
    have w3 := ((w.step e1 j1).step e2 j2).step e3 j3
    have r3 := (r1.ext e2 w.gu).ext e3 w.gu
    have e13 := (e1.trans e2).trans e3
    obtain ⟨rfl, h3⟩ := h3
    refine .inr (.inl ⟨a, _, inv_obj r3, S.at_ H3 j3, fun p hp => ?_⟩)
    rw [cut_ints]
    exact k _ _ _ h3 (e13.trans (Ext.new hp)) (z.g.new j3 hp) (rep_lst_new w3.dom hp reps_of_ints)
theorem de_sliceS (S : ScrJ z.g z.K a ns) (hK : X.K = z.K) (ha : DE X z e ta ma) (hl : DO X z el tl ml) (hu : DO X z eu th mu) : DE X z (.Subscript e (.Slice el eu none p2) pos) (tSl (rSlD z.K) ta tl th) (fun ρ => bnd (ma ρ) fun x => bnd (ml ρ) fun l => bnd (mu ρ) fun u => mSlS a ns x l u) :=
  ⟨by rw [← hK]; exact pe_slice slD ha.pe hl.pe hu.pe, tm_sliceS S ha.tm hl.tm hu.tm⟩
end
def sp_well (a : Addr) (ns : List Int) : FS := fun ds Q E => ∃ lap : Int, ds = [.obj a, .int lap] ∧ 0 ≤ lap ∧ lap ≤ 1000 ∧ ∀ x y u : Int, Q (.lst [.int x, .int y, .int u])
def sp_right (Wl : Addr → Prop) : FS := fun ds Q E => ∃ a : Addr, ds = [.obj a] ∧ Wl a ∧ Q (.bl true)
/-! ### many promises of one def -/
theorem fn_any {ι : Type} {P : Program} {w : World} {K : PySem.W.Frag} {mg : Str → Option Value} {base : Heap} {CX : CXT} {k : Nat} {f : Addr} {fd : FuncData} {ps : List Str} {sp : ι → Sp} (F : ∀ i, FnOk P w K mg base CX k f fd ps (sp i)) : FnOk P w K mg base CX k f fd ps (fun vs H Q E => ∃ i, sp i vs H Q E) :=
  ⟨fun vs H Q E ⟨i, h⟩ => (F i).len vs H Q E h, fun A outer s H args us vs Q E hr he hb hv ⟨i, h⟩ => (F i).run A outer s H args us vs Q E hr he hb hv h⟩
/-- a def called by keywords alone -/
theorem _root_.L2.Fun.kwb {K : PySem.W.Frag} {x qual : Str} {st : Stmt} {f : Addr} {fd : FuncData} {ps ks : List Str} {n : Nat} {is : List Nat} (F : Fun K x qual st f fd)
    (h : ∀ (kV doc pm : Value) (an : Option Addr) (cdv ct : Value) (us ws : List Value), us.length = n → ws.length = ks.length → bindArgs (PySem.W.fnOf x qual (defArgs st) (defBody st) (defScope st) .none kV doc pm an cdv ct) ⟨us, ks.zip ws⟩ = pure (ps.zip (us ++ permL is ws))) : KwB K fd ps ks n is := by
  obtain ⟨oc, od, kV, doc, pm, an, cdv, ct, osl, rfl, lk, hcd⟩ := F.ex
  exact fun s us ws _ h1 h2 => .of_eq (h kV doc pm an cdv ct us ws h1 h2)
/-- what holds as long as the script stands -/
def scrG (K : PySem.W.Frag) (H0 : Hp) (a : Addr) (ns : List Int) : GG where
  G := fun b => b = a ∧ Rd H0 a (.lst (ns.map V.int))
  J := fun H => Rd H0 a (.lst (ns.map V.int)) → Rd H a (.lst (ns.map V.int))
  dom := fun H b j ⟨e, r⟩ => by
    subst e
    rcases j r with h | ⟨o, h⟩ <;> rw [h] <;> simp
  st := fun H H' j k _ r => by
    have := k a ⟨rfl, r⟩
    unfold Rd
    rw [this]
    exact j r
theorem scrG_j {K : PySem.W.Frag} {H0 : Hp} {a : Addr} {ns : List Int} : (scrG K H0 a ns).J H0 := fun r => r
theorem scrG_s {K : PySem.W.Frag} {H0 : Hp} {a : Addr} {ns : List Int} (h : SqL K H0 a (ns.map V.int)) : ScrJ (scrG K H0 a ns) K a ns := ⟨fun H j => by
  rcases h with h | h
  · exact .inl (j h)
  · exact .inr h⟩
end DL

/-! DHead: the facts at a law's head: constants as data, classes, properties, the Hook. -/
namespace DL
open PySem PySem.Spec PyProof.Rows L2
/-! ### a module's constant as data -/
mutual
def dB (K : PySem.W.Frag) : D → Value → Bool
  | .non, .none => true
  | .bl b, .bool c => b == c
  | .int i, .int j _ => decide (i = j)
  | .str x, .str y _ => decide (x = y)
  | .tup ds, .ref a => (match K.lookup a with
    | some ⟨.type c, _, .seq its _, _⟩ => decide (c = "tuple") && (decide (its.size ≤ sizeLine) && dsB K ds its.toList)
    | _ => false)
  | _, _ => false
def dsB (K : PySem.W.Frag) : List D → List Value → Bool
  | [], [] => true
  | d :: ds, u :: us => dB K d u && dsB K ds us
  | _, _ => false
end
mutual
theorem dB_ok {K : PySem.W.Frag} : ∀ (d : D) (u : Value), dB K d u = true → ∃ v, RelV v u ∧ ∀ U H, Rep K U H d v
  | .non, u, h => by
    cases u with
    | none => exact ⟨.non, rfl, fun _ _ => rep_non⟩
    | _ => cases h
  | .bl b, u, h => by
    cases u with
    | bool c =>
      have e : b = c := eq_of_beq (show (b == c) = true from h)
      subst e
      exact ⟨.bl b, rfl, fun _ _ => rep_bl⟩
    | _ => cases h
  | .int i, u, h => by
    cases u with
    | int j t =>
      have e : i = j := of_decide_eq_true h
      subst e
      exact ⟨.int i, ⟨t, rfl⟩, fun _ _ => rep_int⟩
    | _ => cases h
  | .str x, u, h => by
    cases u with
    | str y t =>
      have e : x = y := of_decide_eq_true h
      subst e
      exact ⟨.str x, ⟨t, rfl⟩, fun _ _ => rep_str⟩
    | _ => cases h
  | .tup ds, u, h => by
    cases u with
    | ref a =>
      have h : (match K.lookup a with
        | some ⟨.type c, _, .seq its _, _⟩ => decide (c = "tuple") && (decide (its.size ≤ sizeLine) && dsB K ds its.toList)
        | _ => false) = true := h
      cases q : K.lookup a with
      | none => rw [q] at h; cases h
      | some o =>
        obtain ⟨oc, od, dt, osl⟩ := o
        rw [q] at h
        cases oc with
        | type c =>
          cases dt with
          | seq its n =>
            obtain ⟨h1, h2⟩ := He.ba (show (decide (c = "tuple") && (decide (its.size ≤ sizeLine) && dsB K ds its.toList)) = true from h)
            obtain ⟨h3, h4⟩ := He.ba h2
            obtain ⟨vs, rv, rd⟩ := dsB_ok ds its.toList h4
            refine ⟨.ref a, rfl, fun U H => ?_⟩
            simp only [Rep]
            exact ⟨a, vs, rfl, .inr ⟨_, its, n, q, congrArg Value.type (of_decide_eq_true h1), rfl, of_decide_eq_true h3, rv⟩, rd U H⟩
          | _ => cases h
        | _ => cases dt <;> cases h
    | _ => cases h
  | .lst _, u, h => by cases u <;> cases h
  | .ty _, u, h => by cases u <;> cases h
  | .obj _, u, h => by cases u <;> cases h
  | .ins _ _ _, u, h => by cases u <;> cases h
  | .dK _ _, u, h => by cases u <;> cases h
  | .dT _ _, u, h => by cases u <;> cases h
theorem dsB_ok {K : PySem.W.Frag} : ∀ (ds : List D) (us : List Value), dsB K ds us = true → ∃ vs, Vals vs us ∧ ∀ U H, Reps K U H ds vs
  | [], [], _ => ⟨[], .nil, fun _ _ => Reps.nil⟩
  | [], _ :: _, h => by cases h
  | _ :: _, [], h => by cases h
  | d :: ds, u :: us, h => by
    obtain ⟨h1, h2⟩ := He.ba (show (dB K d u && dsB K ds us) = true from h)
    obtain ⟨v, r, rd⟩ := dB_ok d u h1
    obtain ⟨vs, rs, rds⟩ := dsB_ok ds us h2
    exact ⟨v :: vs, .cons r rs, fun U H => Reps.cons (rd U H) (rds U H)⟩
end
def gkB (K : PySem.W.Frag) (q : Str × D) : Bool := match PySem.W.nsIn K mainGlobals q.1 with
  | some (some u) => dB K q.2 u
  | _ => false
theorem gkB_ok {K : PySem.W.Frag} {h : Heap} {mg : Str → Option Value} (X : K.In h) (G : h.Ns mainGlobals mg) {x : Str} {d : D} (c : gkB K (x, d) = true) : GK K mg x d := by
  have c : (match PySem.W.nsIn K mainGlobals x with | some (some u) => dB K d u | _ => false) = true := c
  cases e : PySem.W.nsIn K mainGlobals x with
  | none => rw [e] at c; cases c
  | some o =>
    rw [e] at c
    cases o with
    | none => cases c
    | some u =>
      obtain ⟨v, r, rd⟩ := dB_ok d u c
      exact ⟨v, u, PySem.W.mg_of X G e, r, rd⟩
/-- a name of the module that is a built-in function -/
def bfB (K : PySem.W.Frag) (q : Str × String) : Bool := He.eqO (PySem.W.nsIn K mainGlobals q.1) (some (some (.builtin q.2)))
theorem bfB_ok {K : PySem.W.Frag} {h : Heap} {mg : Str → Option Value} (X : K.In h) (G : h.Ns mainGlobals mg) {x : Str} {n : String} (c : bfB K (x, n) = true) : mg x = some (.builtin n) := PySem.W.mg_of X G (He.eqO_ok c)
/-! ### classes whose instances isinstance tells -/
def obB (a : Option Bool) (b : Bool) : Bool := decide (a = some b)
def clsFB (K : PySem.W.Frag) (C : Addr) : Bool := PySem.W.plainGet K C Str.empty && (PySem.W.hasDictIn K C && (PySem.W.plainOver K C && (He.eqO (PySem.W.findIn K (.ref C) "__setattr__") (some (some (.builtin "object.__setattr__"))) &&
  (He.eqO (PySem.W.findIn K (.ref C) "__class__") (some (some (.builtin "object.__class__"))) && (He.eqO (PySem.W.specialIn K (.builtin "object.__class__") "__get__") (some (some (.builtin "getset_descriptor.__get__"))) &&
  (obB (PySem.W.takesIn K (.builtin "object.__class__")) true && obB (PySem.W.mroIn K C (.type "object")) true))))))
theorem clsFB_ok {K : PySem.W.Frag} {C : Addr} (h : clsFB K C = true) : ClsF K C := by
  obtain ⟨h1, h⟩ := He.ba h
  obtain ⟨h2, h⟩ := He.ba h
  obtain ⟨h3, h⟩ := He.ba h
  obtain ⟨h4, h⟩ := He.ba h
  obtain ⟨h5, h⟩ := He.ba h
  obtain ⟨h6, h⟩ := He.ba h
  obtain ⟨h7, h8⟩ := He.ba h
  exact ⟨⟨h1, h2, h3, He.eqO_ok h4⟩, He.eqO_ok h5, He.eqO_ok h6, of_decide_eq_true h7, of_decide_eq_true h8⟩
def csfB (K : PySem.W.Frag) (cs : List Addr) : Bool := cs.all fun C => clsFB K C && ((["bool", "int", "str", "tuple", "list", "dict"].all fun b => obB (PySem.W.kitOne K (.ref C) (.type b)) false) && ((tyNs.all fun a => obB (PySem.W.kitOne K (.type a) (.ref C)) false) && cs.all fun C' => obB (PySem.W.kitOne K (.ref C) (.ref C')) (C == C')))
theorem csfB_ok {K : PySem.W.Frag} {cs : List Addr} (h : csfB K cs = true) : CSF K cs := by
  have key : ∀ C ∈ cs, _ := fun C hC => List.all_eq_true.mp h C hC
  refine ⟨fun C hC => clsFB_ok (He.ba (key C hC)).1, fun C hC b hb => ?_, fun C hC a ha => ?_, fun C hC C' hC' => ?_⟩
  · exact of_decide_eq_true (List.all_eq_true.mp (He.ba (He.ba (key C hC)).2).1 b hb)
  · exact of_decide_eq_true (List.all_eq_true.mp (He.ba (He.ba (He.ba (key C hC)).2).2).1 a ha)
  · exact of_decide_eq_true (List.all_eq_true.mp (He.ba (He.ba (He.ba (key C hC)).2).2).2 C' hC')
/-! ### properties -/
/-- the getter of a class's property -/
def getAd (K : PySem.W.Frag) (C y : Str) : Addr := match PySem.W.recIn K (He.ma K (He.ga K C) y) "property" with
  | some (.ref g :: _) => g
  | _ => 0
def propB (K : PySem.W.Frag) (q : Str × Str) : Bool := He.eqO (PySem.W.findIn K (.ref (He.ga K q.1)) q.2) (some (some (.ref (He.ma K (He.ga K q.1) q.2)))) &&
  (He.eqO (PySem.W.specialIn K (.ref (He.ma K (He.ga K q.1) q.2)) "__get__") (some (some (.builtin "property.__get__"))) && (obB (PySem.W.takesIn K (.ref (He.ma K (He.ga K q.1) q.2))) true &&
  (match PySem.W.recIn K (He.ma K (He.ga K q.1) q.2) "property" with
    | some (.ref _ :: _) => true
    | _ => false)))
theorem propB_ok {K : PySem.W.Frag} {C y : Str} (h : propB K (C, y) = true) : PropOf K (He.ga K C) y (He.ma K (He.ga K C) y) (getAd K C y) := by
  obtain ⟨h1, h⟩ := He.ba h
  obtain ⟨h2, h⟩ := He.ba h
  obtain ⟨h3, h4⟩ := He.ba h
  refine ⟨He.eqO_ok h1, He.eqO_ok h2, of_decide_eq_true h3, ?_⟩
  have h4 : (match PySem.W.recIn K (He.ma K (He.ga K C) y) "property" with | some (.ref _ :: _) => true | _ => false) = true := h4
  unfold getAd
  cases q : PySem.W.recIn K (He.ma K (He.ga K C) y) "property" with
  | none => rw [q] at h4; cases h4
  | some l =>
    rw [q] at h4
    cases l with
    | nil => cases h4
    | cons v r =>
      cases v with
      | ref g => exact ⟨r, rfl⟩
      | _ => cases h4
/-! ### the Hook -/
abbrev KD : Type := List Str × List (Str × Str)
/-- one getter: its class and name, its body, its scope -/
structure GetD where
  cls : Str
  name : Str
  st : Stmt
def GetD.qual (d : GetD) : Str := d.cls ++ "." ++ d.name
def fnWA (K : PySem.W.Frag) (a : Addr) : He.FnW := match K.lookup a with
  | some ⟨_, _, .func fd, _⟩ => some (fd.name, fd.qualname, fd.params, fd.body, fd.scope, fd.globals, fd.closure, fd.builtins)
  | _ => none
def noneB : Value → Bool
  | .none => true
  | _ => false
def fnKB (K : PySem.W.Frag) (a : Addr) (q : Str) : Bool := PySem.W.keepIn K (.ref a) && (match K.lookup a with
  | some ⟨_, _, .func fd, _⟩ => PySem.W.codeIn K fd.code q && noneB fd.defaults
  | _ => false)
theorem fnA_ok {K : PySem.W.Frag} {a : Addr} {x q : Str} {st : Stmt} (e : fnWA K a = some (x, q, defArgs st, .stmts (defBody st), defScope st, mainGlobals, [], builtinsNs)) (c : fnKB K a q = true) : ∃ fd, Fun K x q st a fd := by
  obtain ⟨kp, c2⟩ := He.ba c
  unfold fnWA at e
  cases w : K.lookup a with
  | none => rw [w] at c2; cases c2
  | some o =>
    obtain ⟨oc, od, dt, osl⟩ := o
    rw [w] at c2 e
    cases dt with
    | func fd =>
      obtain ⟨n1, n2, n3, n4, n5, n6, n7, n8, n9, n10, n11, n12, n13, n14, n15⟩ := fd
      have e2 : (some (n1, n2, n3, n4, n5, n6, n7, n15) : He.FnW) = some (x, q, defArgs st, .stmts (defBody st), defScope st, mainGlobals, [], builtinsNs) := e
      simp only [Option.some.injEq, Prod.mk.injEq] at e2
      obtain ⟨h1, h2, h3, h4, h5, h6, h7, h8⟩ := e2
      subst h1 h2 h3 h4 h5 h6 h7 h8
      obtain ⟨k1, k2⟩ := He.ba (show (PySem.W.codeIn K n13 n2 && noneB n8) = true from c2)
      cases n8 with
      | none => exact ⟨_, fun_mk w k1 kp⟩
      | _ => cases k2
    | _ => cases c2
theorem funD_fun {K : PySem.W.Frag} {x q : Str} {st : Stmt} {f : Addr} {fd : FuncData} (F : FunD K x q (defArgs st) (defBody st) (defScope st) [] [] f fd) : Fun K x q st f fd := by
  obtain ⟨oc, od, dV, kV, doc, pm, an, cdv, ct, osl, rfl, lk, hcd, hD, hK⟩ := F.ex
  rcases hD with ⟨_, rfl⟩ | ⟨e, _⟩
  · exact ⟨⟨oc, od, kV, doc, pm, an, cdv, ct, osl, rfl, lk, hcd⟩, F.kp⟩
  · exact absurd rfl e
/-! the addresses looked at: what the chosen names hold, level by level -/
def refsY (o : Obj) : List Addr := match o.data with
  | .seq its _ => its.toList.flatMap He.refV
  | .dict es _ => es.toList.flatMap fun e => He.refV e.val
  | .func fd => He.refV fd.code ++ (He.refV fd.defaults ++ He.refV fd.kwdefaults)
  | .cls cd => [cd.ns]
  | .fields vs => vs.toList.flatMap He.refV
  | _ => []
def nextY (g : Addr → Option Obj) : List Addr → List Addr
  | [] => []
  | a :: r => (match g a with
    | some o => refsY o
    | none => []) ++ nextY g r
def levels (g : Addr → Option Obj) : Nat → List Addr → List Addr
  | 0, as => as
  | n + 1, as => as ++ levels g n (nextY g as)
def rootsY (g : Addr → Option Obj) (names : List Str) : List Addr := match g mainGlobals with
  | some o => names.flatMap fun x => (match PySem.W.nsIn [(mainGlobals, o)] mainGlobals x with
    | some (some v) => He.refV v
    | _ => [])
  | none => []
def asY (g : Addr → Option Obj) (n : Nat) (names : List Str) : List Addr := mainGlobals :: levels g n (rootsY g names)
abbrev AlY : Type := He.AlX × List He.FnW
def GetD.val (d : GetD) : He.FnW := some (d.name, d.qual, defArgs d.st, .stmts (defBody d.st), defScope d.st, mainGlobals, [], builtinsNs)
def obsGet (gs : List GetD) (K : PySem.W.Frag) : List He.FnW := gs.map fun d => fnWA K (getAd K d.cls d.name)
def obsYK (fa : List He.Fa) (fn : List He.DefD) (ts : List He.Tab) (tf : List He.Defn) (ex : PySem.W.Frag → Bool) (gs : List GetD) (g : Addr → Option Obj) (K : PySem.W.Frag) : AlY := ((He.obsT fa fn ts K, ex K && He.tabsB g tf K), obsGet gs K)
def obsY (n : Nat) (names : List Str) (fa : List He.Fa) (fn : List He.DefD) (ts : List He.Tab) (tf : List He.Defn) (ex : PySem.W.Frag → Bool) (gs : List GetD) (g : Addr → Option Obj) : AlY := obsYK fa fn ts tf ex gs g (He.frT g (asY g n names))
structure SaysY (fa : List He.Fa) (fn : List He.DefD) (ts : List He.Tab) (tf : List He.Defn) (ex : PySem.W.Frag → Bool) (gs : List GetD) (w : World) (h : Heap) (K : PySem.W.Frag) : Prop where
  x : He.SaysX fa fn ts tf ex w h K
  get : obsGet gs K = gs.map GetD.val
/-- a maker's table stands empty in the heap -/
theorem tab_one {g : Addr → Option Obj} {a : Addr} {b : Bool} (q : (b && (match g a with
    | some o => He.emptyTab o
    | none => false)) = true) : b = true ∧ ∃ o, g a = some o ∧ He.emptyTab o = true := by
  refine ⟨(He.ba q).1, ?_⟩
  have z := (He.ba q).2
  cases e : g a with
  | none => simp [e] at z
  | some o => exact ⟨o, rfl, by simpa [e] using z⟩
theorem saysY_of {fa : List He.Fa} {fn : List He.DefD} {ts : List He.Tab} {tf : List He.Defn} {ex : PySem.W.Frag → Bool} {gs : List GetD} {w : World} {h : Heap} {as : List Addr} (e : obsYK fa fn ts tf ex gs h.get? (He.frT h.get? as) = (He.valX fn ts w, gs.map GetD.val)) : SaysY fa fn ts tf ex gs w h (He.frT h.get? as) := by
  obtain ⟨ee, e3⟩ := Prod.mk.inj e
  obtain ⟨e1, e2⟩ := Prod.mk.inj ee
  have one := fun p (hp : p ∈ tf) => tab_one (List.all_eq_true.mp (He.ba e2).2 p hp)
  refine ⟨⟨e1, (He.ba e2).1, fun p hp => (one p hp).1, fun p hp => ?_, fun p hp => ?_⟩, e3⟩
  · obtain ⟨o, ho, hz⟩ := (one p hp).2
    exact He.frT_none ho hz
  · obtain ⟨o, ho, hz⟩ := (one p hp).2
    rw [ho, He.emptyTab_eq hz]
def hookY (n : Nat) (names : List Str) (fa : List He.Fa) (fn : List He.DefD) (ts : List He.Tab) (tf : List He.Defn) (ex : PySem.W.Frag → Bool) (gs : List GetD) : PySem.W.Hook where
  α := AlY
  obs := fun s => obsY n names fa fn ts tf ex gs s.heap.get?
  val := fun w => (He.valX fn ts w, gs.map GetD.val)
  says := fun w h => ∃ K : PySem.W.Frag, K.In h ∧ SaysY fa fn ts tf ex gs w h K
  of := fun _ _ e => ⟨_, He.frT_in, saysY_of e⟩
  keeps := fun _ _ _ ⟨K, hK, c⟩ k => ⟨K, PySem.W.Frag.In.keeps hK k, ⟨c.x.t, c.x.more, c.x.hd, c.x.out, fun p hp => k _ _ (c.x.empty p hp)⟩, c.get⟩
theorem obsY_eq {n : Nat} {names : List Str} {fa : List He.Fa} {fn : List He.DefD} {ts : List He.Tab} {tf : List He.Defn} {ex : PySem.W.Frag → Bool} {gs : List GetD} {g : Addr → Option Obj} {s : Shared} (h : ∀ a, g a = s.heap.get? a) : obsY n names fa fn ts tf ex gs g = (hookY n names fa fn ts tf ex gs).obs s := by
  rw [show g = s.heap.get? from funext h] <;> rfl
theorem SaysY.getter {fa : List He.Fa} {fn : List He.DefD} {ts : List He.Tab} {tf : List He.Defn} {ex : PySem.W.Frag → Bool} {gs : List GetD} {w : World} {h : Heap} {K : PySem.W.Frag} (c : SaysY fa fn ts tf ex gs w h K) {d : GetD} (hd : d ∈ gs) (k : fnKB K (getAd K d.cls d.name) d.qual = true) : ∃ fd, Fun K d.name d.qual d.st (getAd K d.cls d.name) fd := by
  have e : fnWA K (getAd K d.cls d.name) = d.val := by
    obtain ⟨i, hi, e⟩ := List.getElem_of_mem hd
    have q := congrArg (fun l : List He.FnW => l[i]?) c.get
    unfold obsGet at q
    rw [List.getElem?_map, List.getElem?_map, List.getElem?_eq_getElem hi, e] at q
    exact Option.some.inj q
  exact fnA_ok e k
/-- a table's entry that is a def -/
theorem kdct_of {K : PySem.W.Frag} {w : World} {a f : Addr} {es : Array DictEntry} {n : Nat} {kvs : List (Str × He.Dv)} {x : Str} {v : He.Dv} (D : KDict K w a es n) (h : He.valsB K a kvs = true) (hx : (x, v) ∈ kvs) (hv : v.v K = .ref f) : KDct K w a x (.ref f) := by
  obtain ⟨u, e, r⟩ := He.valsB_ok h hx
  exact ⟨es, n, u, D.at_, D.lit, e, by rw [← hv]; exact r⟩
end DL

/-! DTop: the law itself: the wells made, then the law's parts over them. -/
namespace DL
open PySem PySem.Spec PyProof.Rows L2 LamX
/-- what the law's parts may change: the wells at A, the makers' tables T -/
def wellG (T : List (Addr × Str)) (A : List Addr) : GG where
  G := fun b => b ∈ A ∨ ∃ p ∈ T, p.1 = b
  J := fun H => (∀ a ∈ A, ∃ x y u : Int, H a = some (.lst [.int x, .int y, .int u])) ∧ Tabs T H
  dom := fun H b j h => by
    rcases h with h | ⟨p, hp, rfl⟩
    · obtain ⟨x, y, u, e⟩ := j.1 b h
      rw [e]; simp
    · obtain ⟨ps, e, _⟩ := j.2 p hp
      rw [e]; simp
  st := fun H H' j k ke => ⟨fun a ha => by rw [k a (.inl ha)]; exact j.1 a ha, fun p hp => by
    obtain ⟨ps, e, h1, h2⟩ := j.2 p hp
    refine ⟨ps, by rw [k p.1 (.inr ⟨p, hp, rfl⟩)]; exact e, h1, fun pos cv hc => ?_⟩
    obtain ⟨c, e1, e2⟩ := h2 pos cv hc
    exact ⟨c, e1, ke _ _ e2⟩⟩
section
variable {T : List (Addr × Str)} {A : List Addr}
theorem wellG_j {p : Addr × Str} (hp : p ∈ T) {H H1 : Hp} (j : (wellG T A).J H) (e : ExtP p.1 H H1) (t : Tabs T H1) : (wellG T A).J H1 := ⟨fun a ha => by
  obtain ⟨x, y, u, h⟩ := j.1 a ha
  obtain ⟨ps, h2, _⟩ := j.2 p hp
  exact ⟨x, y, u, e a _ h (ne_of h h2 (by intro z; cases z))⟩, t⟩
theorem wellG_x {H : Hp} {a : Addr} {φ} (j : (wellG T A).J H) (h : (wellG T A).G a) : H a ≠ some (.ext φ) := by
  rcases h with h | ⟨p, hp, rfl⟩
  · obtain ⟨x, y, u, e⟩ := j.1 a h
    rw [e]; intro z; cases z
  · obtain ⟨ps, e, _⟩ := j.2 p hp
    rw [e]; intro z; cases z
theorem wellG_w : WellJ (wellG T A) (· ∈ A) := ⟨fun H a j h => j.1 a h, fun a h => .inl h, fun H a x y u j h => ⟨fun b hb => by
  by_cases e : b = a
  · subst e; exact ⟨x, y, u, upd_same⟩
  · rw [upd_ne e]; exact j.1 b hb, fun p hp => by
  obtain ⟨x', y', u', ha⟩ := j.1 a h
  obtain ⟨ps, e, h1, h2⟩ := j.2 p hp
  refine ⟨ps, by rw [upd_ne (ne_of e ha (by intro z; cases z))]; exact e, h1, fun pos cv hc => ?_⟩
  obtain ⟨c, e1, e2⟩ := h2 pos cv hc
  exact ⟨c, e1, by rw [upd_ne (ne_of e2 ha (by intro z; cases z))]; exact e2⟩⟩⟩
theorem tabs_new {H : Hp} (h : ∀ p ∈ T, H p.1 = some (.tbl #[])) : Tabs T H := fun p hp => ⟨#[], h p hp, trivial, fun pos cv hc => by
  have z : codeAmong pos [] = some cv := hc
  simp [codeAmong] at z⟩
end
abbrev rMin2 : List V → Hp → VK → Prop := fun xs H Q => ∃ i j, xs = [.int i, .int j] ∧ Q (.int (if j < i then j else i)) H
abbrev rMax2 : List V → Hp → VK → Prop := fun xs H Q => ∃ i j, xs = [.int i, .int j] ∧ Q (.int (if j > i then j else i)) H
/-- the wells -/
def tWells (K : PySem.W.Frag) (spW : Sp) : TE := tLc (iRng1 (tCons (tCB rMax2 (tCons (tC (.int 1)) (tCons (tCB rMin2 (tCons (tCB (rLenD K) (tCons (tVar 0) tNil)) (tCons (tC (.int 3)) tNil))) tNil))) tNil)) (gName 2) tYes (tCall spW [] E0 (tCons (tVar 0) (tCons (tVar 2) tNil))) [2]
/-- the law's parts -/
def tRights (K : PySem.W.Frag) (spR : Sp) (n : Int) : TE := tLc (iRng1 (tCons (tC (.int n)) tNil)) (gName 2) tYes (tCall spR [] E0 (tCons (tOp (rIxL K) (tVar 1) (tOp (rI (fun _ j => j ≠ 0) fun i j => .int (i.fmod j)) (tCB rIntD (tCons (tVar 2) tNil)) (tCB (rLenD K) (tCons (tVar 1) tNil)))) tNil)) [2]
/-- the wells made -/
theorem wells_read {K : PySem.W.Frag} {spW : Sp} {T : List (Addr × Str)} {H0 : Hp} {a : Addr} {ns : List Int} {Q : VK} {o1 o2 : Option V} (hS : SqL K H0 a (ns.map V.int)) (hl : ns.length ≤ 63)
    (hW : ∀ vs H Q E, spOf K (scrG K H0 a ns) 2 (sp_well a ns) vs H Q E → spW vs H Q E) (hT : ∀ p ∈ T, H0 p.1 = some (.tbl #[]))
    (k : ∀ (D : Addr) (A : List Addr) (H : Hp), 1 ≤ A.length → A.length ≤ 3 → H D = some (.lst (A.map V.ref)) → D ∉ A → (∀ b ∈ A, ∃ x y u : Int, H b = some (.lst [.int x, .int y, .int u])) → (∀ p ∈ T, H p.1 = some (.tbl #[])) → Q (.ref D) H) : tWells K spW [some (.ref a), o1, o2] H0 Q := by
  refine ⟨.ref a, rfl, .inl ⟨a, _, rfl, .inl hS, _, _, rfl, _, _, rfl, _, rfl, ?_, ?_, fun D hD => ?_⟩⟩
  · rw [List.length_map]; split <;> split at * <;> omega
  · rw [List.length_map]; split <;> split at * <;> omega
  · rw [List.length_map]
    have hm : ∃ m : Nat, Int.toNat (if (if (3 : Int) < (ns.length : Int) then 3 else (ns.length : Int)) > 1 then (if (3 : Int) < (ns.length : Int) then 3 else (ns.length : Int)) else 1) = m ∧ 1 ≤ m ∧ m ≤ 3 := ⟨_, rfl, by split <;> split at * <;> omega, by split <;> split at * <;> omega⟩
    obtain ⟨m, em, m1, m3⟩ := hm
    rw [em]
    have key : ∀ (i : Nat) (H : Hp), True := fun _ _ => trivial
    refine lc_range (lo := 0) (n := m) (fun i H => ∃ A : List Addr, A.length = i ∧ H D = some (.lst (A.map V.ref)) ∧ D ∉ A ∧ (∀ b ∈ A, ¬ (scrG K H0 a ns).G b ∧ ∃ x y u : Int, H b = some (.lst [.int x, .int y, .int u])) ∧ (∀ p ∈ T, H p.1 = some (.tbl #[])) ∧ (scrG K H0 a ns).J H) ⟨[], rfl, upd_same, by simp, fun _ h => by simp at h, fun p hp => ?_, (scrG K H0 a ns).new scrG_j hD⟩ (fun i H hi hP => ?_) fun H hP => ?_
    · rw [upd_ne (ne_of_none (hT p hp) hD)]; exact hT p hp
    · obtain ⟨A, hA, hDA, nD, hw, hTH, hJ⟩ := hP
      refine ⟨rfl, .ref a, rfl, .int (0 + (i : Int)), rfl, ?_⟩
      have nDG : ¬ (scrG K H0 a ns).G D := fun ⟨e, r⟩ => by
        rw [← e] at r
        rcases r with r | ⟨o, r⟩ <;> rw [hD] at r <;> cases r
      refine hW _ _ _ _ ⟨rfl, (scrG K H0 a ns).G, [.obj a, .int (0 + (i : Int))], fun d => ∃ x y u : Int, d = .lst [.int x, .int y, .int u], fun _ => False, fun _ h => h, fun b hb => (scrG K H0 a ns).dom H b hJ hb, hJ, Reps.cons (by simp only [Rep]) (Reps.cons rep_int Reps.nil), ⟨0 + (i : Int), rfl, by omega, by omega, fun x y u => ⟨x, y, u, rfl⟩⟩, fun d v H' hd e j r => ?_, fun _ _ _ _ h => h.elim⟩
      obtain ⟨x, y, u, rfl⟩ := hd
      obtain ⟨p, xs, rfl, ⟨hp, nU⟩, r⟩ := rep_lst_inv r
      have r : xs = [V.int x, V.int y, V.int u] := reps_ints (ns := [x, y, u]) r
      subst r
      have hD' := e D _ hDA nDG
      have hpD : p ≠ D := fun q => by
        rw [q, hD'] at hp
        cases A with
        | nil => cases hp
        | cons b r => cases hp
      refine ⟨_, hD', by rw [List.length_map, sizeLine_eq]; omega, A ++ [p], by simp [hA], by rw [upd_same, List.map_append]; rfl, ?_, fun b hb => ?_, fun q hq => ?_, ?_⟩
      · intro h
        rcases List.mem_append.mp h with h | h
        · exact nD h
        · exact hpD (List.mem_singleton.mp h).symm
      · rcases List.mem_append.mp hb with h | h
        · obtain ⟨n, x, y, u, hb⟩ := hw b h
          refine ⟨n, x, y, u, ?_⟩
          rw [upd_ne fun q => nD (by rw [← q]; exact h)]
          exact e _ _ hb n
        · rw [List.mem_singleton.mp h]
          refine ⟨nU, x, y, u, ?_⟩
          rw [upd_ne hpD]
          exact hp
      · have hq' : H' q.1 = some (.tbl #[]) := e _ _ (hTH q hq) fun ⟨e, r⟩ => by
          rw [← e] at r
          rcases r with r | ⟨o, r⟩ <;> rw [hT q hq] at r <;> cases r
        rw [upd_ne (ne_of hq' hD' (by intro z; cases z))]
        exact hq'
      · refine (scrG K H0 a ns).st _ _ j (fun b hb => upd_ne fun q => nDG (by rw [← q]; exact hb)) fun b φ hb => ?_
        rw [upd_ne (ne_of hb hD' (by intro z; cases z))]
        exact hb
    · obtain ⟨A, hA, hDA, nD, hw, hTH, hJ⟩ := hP
      exact k D A H (by omega) (by omega) hDA nD (fun b hb => (hw b hb).2) hTH
/-- all parts hold -/
theorem rights_read {K : PySem.W.Frag} {spR : Sp} {T : List (Addr × Str)} {A : List Addr} {H0 : Hp} {D : Addr} {n : Int} {Q : VK} {o0 o2 : Option V} (n0 : 0 ≤ n) (n1 : n ≤ 1000) (h1 : 1 ≤ A.length) (hD : H0 D = some (.lst (A.map V.ref))) (nD : D ∉ A)
    (hw : ∀ b ∈ A, ∃ x y u : Int, H0 b = some (.lst [.int x, .int y, .int u])) (hT : ∀ p ∈ T, H0 p.1 = some (.tbl #[])) (hl : A.length ≤ 3)
    (hR : ∀ vs H Q E, spOf K (wellG T A) 1 (sp_right (· ∈ A)) vs H Q E → spR vs H Q E)
    (k : ∀ (L : Addr) (H : Hp), H L = some (.lst ((List.replicate n.toNat true).map V.bl)) → Q (.ref L) H) : tRights K spR n [o0, some (.ref D), o2] H0 Q := by
  refine ⟨_, rfl, by omega, by omega, fun L hL => ?_⟩
  have nG : ¬ (wellG T A).G D := fun h => by
    rcases h with h | ⟨p, hp, e⟩
    · exact nD h
    · have := hT p hp
      rw [e, hD] at this
      cases this
  have jj : (wellG T A).J H0 := ⟨hw, tabs_new hT⟩
  have nL : ¬ (wellG T A).G L := fun h => (wellG T A).dom H0 L jj h hL
  refine lc_range (lo := 0) (n := n.toNat) (fun i H => H L = some (.lst ((List.replicate i true).map V.bl)) ∧ H D = some (.lst (A.map V.ref)) ∧ (wellG T A).J H) ⟨upd_same, ?_, (wellG T A).new jj hL⟩ (fun i H hi hP => ?_) fun H hP => ?_
  · rw [upd_ne (ne_of_none hD hL)]; exact hD
  · obtain ⟨hH, hHD, hJ⟩ := hP
    refine ⟨rfl, ?_⟩
    have hj : ((0 : Int) + (i : Int)).fmod (A.length : Int) = ((i % A.length : Nat) : Int) := by
      rw [Int.zero_add, Int.fmod_eq_emod_of_nonneg _ (by omega)]
      rfl
    have hlt : i % A.length < A.length := Nat.mod_lt _ (by omega)
    refine ⟨.ref D, rfl, .int (0 + (i : Int)), rfl, .inl ⟨_, rfl, .ref D, rfl, .inl ⟨D, _, rfl, .inl (SqL.of hHD), _, _, rfl, rfl, ?_, D, _, _, .ref A[i % A.length], rfl, rfl, SqL.of hHD, ?_, ?_⟩⟩⟩
    · rw [List.length_map]; omega
    · rw [List.length_map, hj]
      unfold atI ixN
      rw [if_pos (by omega), List.length_map, if_pos (by omega)]
      show (A.map V.ref)[((i % A.length : Nat) : Int).toNat]? = _
      rw [Int.toNat_natCast, List.getElem?_map, List.getElem?_eq_getElem hlt]
      rfl
    · refine hR _ _ _ _ ⟨rfl, (wellG T A).G, [.obj A[i % A.length]], fun d => d = .bl true, fun _ => False, fun _ h => h, fun b hb => (wellG T A).dom H b hJ hb, hJ, Reps.cons (by simp only [Rep]) Reps.nil, ⟨_, rfl, List.getElem_mem hlt, rfl⟩, fun d v H' hd e j r => ?_, fun _ _ _ _ h => h.elim⟩
      subst hd
      have r := inv_bl r
      subst r
      have hL' := e L _ hH nL
      have hD' := e D _ hHD nG
      refine ⟨_, hL', by rw [List.length_map, List.length_replicate, sizeLine_eq]; omega, ?_, ?_, ?_⟩
      · rw [upd_same, List.replicate_succ', List.map_append]
        rfl
      · rw [upd_ne fun q => ?_]
        · exact hD'
        · rw [q, hL'] at hD'
          cases i with
          | zero => cases A with
            | nil => simp at h1
            | cons b r => cases hD'
          | succ i => cases A with
            | nil => cases hD'
            | cons b r => cases hD'
      · refine (wellG T A).st _ _ j (fun b hb => upd_ne fun q => nL (by rw [← q]; exact hb)) fun b φ hb => ?_
        rw [upd_ne (ne_of hb hL' (by intro z; cases z))]
        exact hb
  · exact k L H hP.1
/-- the law -/
def tLaw (K : PySem.W.Frag) (spW spR : Sp) (n : Int) : TS := tSeq (tAsg (tWells K spW) (gName 1)) (tRet (tCB (rAll K) (tCons (tRights K spR n) tNil)))
theorem law_read {K : PySem.W.Frag} {spW spR : Sp} {T : List (Addr × Str)} {H0 : Hp} {a : Addr} {ns : List Int} {n : Int} {κ : Ends} (hS : SqL K H0 a (ns.map V.int)) (hl : ns.length ≤ 63) (n0 : 0 ≤ n) (n1 : n ≤ 1000)
    (hW : ∀ vs H Q E, spOf K (scrG K H0 a ns) 2 (sp_well a ns) vs H Q E → spW vs H Q E) (hT : ∀ p ∈ T, H0 p.1 = some (.tbl #[]))
    (hR : ∀ A vs H Q E, spOf K (wellG T A) 1 (sp_right (· ∈ A)) vs H Q E → spR vs H Q E) (hk : ∀ H, κ.rt (.bl true) H) : tLaw K spW spR n κ (start ["script", "wells", "lap"] [.ref a]) H0 := by
  refine (wells_read (o1 := none) (o2 := none) hS hl hW hT fun D A H h1 h3 hD nD hw hTH => ?_ : tWells K spW [some (.ref a), none, none] H0 fun x H1 => (tRet (tCB (rAll K) (tCons (tRights K spR n) tNil))) κ [some (.ref a), some x, none] H1)
  refine (rights_read (o0 := some (.ref a)) (o2 := none) n0 n1 h1 hD nD hw hTH h3 (hR A) fun L H hL => ⟨L, _, rfl, SqL.of hL, ?_⟩ : tRights K spR n [some (.ref a), some (.ref D), none] H fun x H1 => rAll K [x] H1 κ.rt)
  have e : (List.replicate n.toNat true).all id = true := by
    rw [List.all_eq_true]
    intro b hb
    exact (List.mem_replicate.mp hb).2
  rw [e]
  exact hk H
end DL

/-! DEven: even awards by a level; the rules' awards. -/
namespace DL
open PySem PySem.Spec PyProof.Rows L2
/-- the less of a level and a claim -/
def cap (l c : Rat) : Rat := if l < c then l else c
theorem cap_le (l c : Rat) : cap l c ≤ l ∧ cap l c ≤ c := by unfold cap; split <;> grind
theorem cap_lo {l c : Rat} (h : c ≤ l) : cap l c = c := by unfold cap; split <;> grind
theorem cap_hi {l c : Rat} (h : l ≤ c) : cap l c = l := by unfold cap; split <;> grind
theorem cap_mono {l l' : Rat} (h : l ≤ l') (c : Rat) : cap l c ≤ cap l' c := by unfold cap; split <;> split <;> grind
theorem cap_nn {l c : Rat} (h : 0 ≤ l) (hc : 0 ≤ c) : 0 ≤ cap l c := by unfold cap; split <;> assumption
/-- sums of maps -/
theorem sum_le {α : Type} {f g : α → Rat} : ∀ {l : List α}, (∀ x ∈ l, f x ≤ g x) → (l.map f).sum ≤ (l.map g).sum
  | [], _ => by simp
  | x :: r, h => by
    have h1 := h x List.mem_cons_self
    have h2 := sum_le (l := r) fun y hy => h y (List.mem_cons_of_mem _ hy)
    rw [List.map_cons, List.map_cons, List.sum_cons, List.sum_cons]
    grind
theorem sum_eq {α : Type} {f g : α → Rat} : ∀ {l : List α}, (∀ x ∈ l, f x ≤ g x) → (l.map f).sum = (l.map g).sum → ∀ x ∈ l, f x = g x
  | [], _, _, x, hx => (List.not_mem_nil hx).elim
  | y :: r, h, e, x, hx => by
    have h1 := h y List.mem_cons_self
    have h2 := sum_le (l := r) fun y hy => h y (List.mem_cons_of_mem _ hy)
    rw [List.map_cons, List.map_cons, List.sum_cons, List.sum_cons] at e
    have e1 : f y = g y := by grind
    rcases List.mem_cons.mp hx with rfl | hm
    · exact e1
    · exact sum_eq (fun y hy => h y (List.mem_cons_of_mem _ hy)) (by grind) x hm
theorem sum_const {α : Type} {f : α → Rat} {k : Rat} : ∀ {l : List α}, (∀ x ∈ l, f x = k) → (l.map f).sum = (l.length : Int) * k
  | [], _ => by simp
  | x :: r, h => by
    rw [List.map_cons, List.sum_cons, sum_const fun y hy => h y (List.mem_cons_of_mem _ hy), h x List.mem_cons_self, List.length_cons]
    have : (((r.length + 1 : Nat) : Int) : Rat) = ((r.length : Int) : Rat) + 1 := by
      rw [show ((r.length + 1 : Nat) : Int) = (r.length : Int) + 1 by omega, Rat.intCast_add]; rfl
    rw [this]
    grind
theorem perm_sum {l l' : List Rat} (h : l.Perm l') : l.sum = l'.sum := by
  induction h with
  | nil => rfl
  | cons x _ ih => rw [List.sum_cons, List.sum_cons, ih]
  | swap x y l => simp only [List.sum_cons]; grind
  | trans _ _ h1 h2 => rw [h1, h2]
/-- even awards: by one level, the money together -/
def Even (cs : List Rat) (m : Rat) (qs : List Rat) : Prop := ∃ l, qs = cs.map (cap l) ∧ qs.sum = m
theorem Even.le {cs : List Rat} {l l' : Rat} (h : (cs.map (cap l)).sum ≤ (cs.map (cap l')).sum) : ∀ c ∈ cs, cap l c ≤ cap l' c := fun c hc => by
  by_cases e : l ≤ l'
  · exact cap_mono e c
  · have e' : l' ≤ l := by grind
    have h2 := sum_le (l := cs) fun c _ => cap_mono e' c
    have := sum_eq (l := cs) (fun c _ => cap_mono e' c) (by grind) c hc
    grind
theorem Even.uniq {cs : List Rat} {m : Rat} {qs qs' : List Rat} (h : Even cs m qs) (h' : Even cs m qs') : qs = qs' := by
  obtain ⟨l, rfl, e⟩ := h
  obtain ⟨l', rfl, e'⟩ := h'
  refine List.map_congr_left fun c hc => ?_
  have h1 := Even.le (l := l) (l' := l') (by grind) c hc
  have h2 := Even.le (l := l') (l' := l) (by grind) c hc
  grind
theorem Even.len {cs : List Rat} {m : Rat} {qs : List Rat} (h : Even cs m qs) : qs.length = cs.length := by
  obtain ⟨l, rfl, _⟩ := h
  exact List.length_map _
theorem Even.get {cs : List Rat} {m : Rat} {qs : List Rat} (h : Even cs m qs) {i : Nat} {c q : Rat} (e1 : cs[i]? = some c) (e2 : qs[i]? = some q) : q ≤ c := by
  obtain ⟨l, rfl, _⟩ := h
  rw [List.getElem?_map, e1] at e2
  cases e2
  exact (cap_le l c).2
/-! ### by levels: sorted whole numbers -/
theorem cast_sum : ∀ l : List Int, (l.map fun (x : Int) => (x : Rat)).sum = ((l.sum : Int) : Rat)
  | [] => rfl
  | x :: r => by rw [List.map_cons, List.sum_cons, List.sum_cons, cast_sum r, Rat.intCast_add]
theorem cast_le {a b : Int} : (a : Rat) ≤ (b : Rat) ↔ a ≤ b := Rat.intCast_le_intCast
/-- the level that is told in a turn of the loop -/
theorem level_ok {rows : List Int} {i : Nat} {r L Z : Int} (hr : rows[i]? = some r) (hs : rows.Pairwise fun x y => x ≤ y) (hlo : ∀ x ∈ rows.take i, x ≤ L) (hL : L ≤ r) (hZ : 0 ≤ Z) (hm : Z ≤ ((rows.length : Int) - i) * (r - L)) {l : Rat} (hl : l * (((rows.length : Int) - i : Int) : Rat) = ((L * ((rows.length : Int) - i) + Z : Int) : Rat)) :
    (rows.map fun (x : Int) => cap l (x : Rat)).sum = (((rows.take i).sum + ((rows.length : Int) - i) * L + Z : Int) : Rat) := by
  have hi := (List.getElem?_eq_some_iff.mp hr).1
  have hn : 0 < (rows.length : Int) - i := by omega
  generalize hn' : (rows.length : Int) - i = n at *
  have hnq : (0 : Rat) < (n : Rat) := by rw [show (0 : Rat) = ((0 : Int) : Rat) from rfl, Rat.intCast_lt_intCast]; exact hn
  have h1 : (L : Rat) ≤ l := by
    refine Rat.not_lt.mp fun h => ?_
    have := Rat.mul_lt_mul_of_pos_right h hnq
    rw [hl, ← Rat.intCast_mul, Rat.intCast_lt_intCast] at this
    omega
  have h2 : l ≤ (r : Rat) := by
    refine Rat.not_lt.mp fun h => ?_
    have := Rat.mul_lt_mul_of_pos_right h hnq
    rw [hl, ← Rat.intCast_mul, Rat.intCast_lt_intCast] at this
    have e : n * (r - L) = r * n - L * n := by rw [Int.mul_sub, Int.mul_comm n r, Int.mul_comm n L]
    omega
  have sp : rows = rows.take i ++ rows.drop i := (List.take_append_drop i rows).symm
  have e1 : (rows.map fun (x : Int) => cap l (x : Rat)).sum = ((rows.take i).map fun (x : Int) => cap l (x : Rat)).sum + ((rows.drop i).map fun (x : Int) => cap l (x : Rat)).sum := by
    conv => lhs; rw [sp]
    rw [List.map_append, List.sum_append]
  have e2 : ((rows.take i).map fun (x : Int) => cap l (x : Rat)).sum = (((rows.take i).sum : Int) : Rat) := by
    rw [← cast_sum]
    refine congrArg _ (List.map_congr_left fun x hx => ?_)
    have := cast_le.mpr (hlo x hx)
    exact cap_lo (by grind)
  have e3 : ((rows.drop i).map fun (x : Int) => cap l (x : Rat)).sum = (((rows.drop i).length : Nat) : Int) * l := sum_const fun x hx => by
    obtain ⟨k, hk, e⟩ := List.getElem_of_mem hx
    rw [List.getElem_drop] at e
    have hk2 : i + k < rows.length := by rw [List.length_drop] at hk; omega
    have er : rows[i] = r := by rw [List.getElem?_eq_getElem hi] at hr; exact Option.some.inj hr
    have : r ≤ x := by
      rw [← e, ← er]
      by_cases h0 : k = 0
      · subst h0; simp
      · exact List.pairwise_iff_getElem.mp hs i (i + k) hi hk2 (by omega)
    have := cast_le.mpr this
    exact cap_hi (by grind)
  rw [e1, e2, e3, List.length_drop, show ((rows.length - i : Nat) : Int) = n by omega, Rat.mul_comm, hl]
  rw [← Rat.intCast_add]
  congr 1
  rw [Int.mul_comm L n]
  omega
/-! ### the law's own way: who claims least first -/
def Half (q : Rat) : Prop := ∃ x : Int, q * 2 = (x : Rat)
theorem range_map (cs : List Rat) : (List.range cs.length).map (fun k => cs.getD k 0) = cs := by
  refine List.ext_getElem (by simp) fun i h1 h2 => ?_
  rw [List.getElem_map, List.getElem_range, List.getD_eq_getElem?_getD, List.getElem?_eq_getElem h2]
  rfl
theorem take_out {R : List Nat} {a : Nat} (hn : R.Nodup) (ha : a ∈ R) : R.Perm (a :: R.filter fun k => decide (k ≠ a)) := by
  have e : (R.filter fun k => decide (k ≠ a)) = R.erase a := by
    rw [hn.erase_eq_filter]
    refine List.filter_congr fun x _ => ?_
    by_cases h : x = a <;> simp [h]
  rw [e]
  exact List.perm_cons_erase ha
structure LE (cs : List Rat) (m : Rat) (Pd R : List Nat) (L μ : Rat) : Prop where
  pm : (Pd ++ R).Perm (List.range cs.length)
  ord : ∀ k ∈ Pd, ∀ j ∈ R, cs.getD k 0 ≤ cs.getD j 0
  sum : L + (Pd.map fun k => cap μ (cs.getD k 0)).sum = m
  l0 : 0 ≤ L
  l1 : L ≤ (R.map fun k => cs.getD k 0).sum
  m0 : 0 ≤ μ
  mu : R ≠ [] → μ * ((R.length : Int) : Rat) = L
  sh : R ≠ [] → Half L ∨ ∀ j ∈ R, μ ≤ cs.getD j 0
  fr : ∃ n : Int, 1 ≤ n ∧ n ≤ cs.length ∧ ∃ x : Int, μ * ((2 * n : Int) : Rat) = (x : Rat)
  ub : μ ≤ m
theorem LE.start {cs : List Rat} {m : Rat} (h : 1 ≤ cs.length) (h0 : 0 ≤ m) (h1 : m ≤ cs.sum) (hm : Half m) : LE cs m [] (List.range cs.length) m (m / ((cs.length : Int) : Rat)) := by
  have hq : (0 : Rat) < ((cs.length : Int) : Rat) := by rw [show (0 : Rat) = ((0 : Int) : Rat) from rfl, Rat.intCast_lt_intCast]; omega
  have hd : m / ((cs.length : Int) : Rat) * ((cs.length : Int) : Rat) = m := Rat.div_mul_cancel (Rat.ne_of_gt hq)
  refine ⟨by simp, fun k hk => (List.not_mem_nil hk).elim, by simp; grind, h0, by rw [range_map]; exact h1, ?_, fun _ => by rw [List.length_range]; exact hd, fun _ => .inl hm, ⟨cs.length, by omega, by omega, ?_⟩, ?_⟩
  · refine Rat.not_lt.mp fun hn => ?_
    have := Rat.mul_lt_mul_of_pos_right hn hq
    rw [hd, Rat.zero_mul] at this
    grind
  · obtain ⟨x, hx⟩ := hm
    refine ⟨x, ?_⟩
    rw [Rat.intCast_mul, ← hx]
    have : ((2 : Int) : Rat) = 2 := rfl
    rw [this]
    grind
  · have h1q : (1 : Rat) ≤ ((cs.length : Int) : Rat) := by rw [show (1 : Rat) = ((1 : Int) : Rat) from rfl, Rat.intCast_le_intCast]; omega
    have h0q : 0 ≤ m / ((cs.length : Int) : Rat) := by
      refine Rat.not_lt.mp fun hn => ?_
      have := Rat.mul_lt_mul_of_pos_right hn hq
      rw [hd, Rat.zero_mul] at this
      grind
    have := Rat.mul_le_mul_of_nonneg_left h1q h0q
    rw [hd, Rat.mul_one] at this
    exact this
theorem LE.step {cs : List Rat} {m : Rat} {Pd R : List Nat} {L μ : Rat} {a : Nat} (h : LE cs m Pd R L μ) (ha : a ∈ R) (hmin : ∀ k ∈ R, cs.getD a 0 ≤ cs.getD k 0) (hc : ∀ k ∈ R, Half (cs.getD k 0)) (h0 : ∀ k, 0 ≤ cs.getD k 0) :
    ∃ μ', LE cs m (a :: Pd) (R.filter fun k => decide (k ≠ a)) (L - (if cs.getD a 0 < μ then cs.getD a 0 else μ)) μ' ∧ (∀ k ∈ Pd, cap μ' (cs.getD k 0) = cap μ (cs.getD k 0)) ∧ cap μ' (cs.getD a 0) = if cs.getD a 0 < μ then cs.getD a 0 else μ := by
  have hnd : R.Nodup := ((h.pm.nodup_iff.mpr List.nodup_range).sublist (List.sublist_append_right Pd R))
  have hp := take_out hnd ha
  generalize hR' : (R.filter fun k => decide (k ≠ a)) = R' at hp
  have hsub : ∀ k ∈ R', k ∈ R := fun k hk => hp.mem_iff.mpr (List.mem_cons_of_mem _ hk)
  have hne : R ≠ [] := fun e => by rw [e] at ha; exact List.not_mem_nil ha
  have hmu := h.mu hne
  have hlen : (R.length : Int) = (R'.length : Int) + 1 := by
    have := hp.length_eq
    rw [List.length_cons] at this
    omega
  rw [hlen, Rat.intCast_add] at hmu
  have hn0 : (0 : Rat) ≤ ((R'.length : Int) : Rat) := by rw [show (0 : Rat) = ((0 : Int) : Rat) from rfl, Rat.intCast_le_intCast]; omega
  have h11 : ((1 : Int) : Rat) = 1 := rfl
  rw [h11] at hmu
  have hsR : (R.map fun k => cs.getD k 0).sum = cs.getD a 0 + (R'.map fun k => cs.getD k 0).sum := by
    have := perm_sum (hp.map fun k => cs.getD k 0)
    rw [this, List.map_cons, List.sum_cons]
  have hpm : (a :: Pd ++ R').Perm (List.range cs.length) := by
    refine List.Perm.trans ?_ h.pm
    refine List.Perm.trans ?_ (hp.symm.append_left Pd)
    exact List.perm_middle.symm
  have hord : ∀ k ∈ a :: Pd, ∀ j ∈ R', cs.getD k 0 ≤ cs.getD j 0 := fun k hk j hj => by
    rcases List.mem_cons.mp hk with rfl | hk
    · exact hmin j (hsub j hj)
    · exact h.ord k hk j (hsub j hj)
  have hl0 := h.l0
  have hl1 := h.l1
  have hm0 := h.m0
  have hsum := h.sum
  have ha0 := h0 a
  have hub := h.ub
  have hLm : L ≤ m := by
    have : 0 ≤ (Pd.map fun k => cap μ (cs.getD k 0)).sum := by
      have := sum_le (l := Pd) (f := fun _ => 0) (g := fun k => cap μ (cs.getD k 0)) fun k _ => cap_nn hm0 (h0 k)
      rw [sum_const (k := 0) fun _ _ => rfl] at this
      grind
    grind
  generalize hca : cs.getD a 0 = c at *
  rw [hsR] at hl1
  by_cases hlt : c < μ
  · rw [if_pos hlt]
    -- all that are out have what they claim
    have hPc : ∀ k ∈ Pd, cs.getD k 0 ≤ μ := fun k hk => by
      have := h.ord k hk a ha
      rw [hca] at this
      grind
    have hA : Half L := by
      rcases h.sh hne with hA | hB
      · exact hA
      · have := hB a ha
        rw [hca] at this
        grind
    have key : ∀ μ', μ ≤ μ' → (∀ k ∈ Pd, cap μ' (cs.getD k 0) = cap μ (cs.getD k 0)) ∧ cap μ' c = c := fun μ' hμ => ⟨fun k hk => by rw [cap_lo (hPc k hk), cap_lo (Rat.le_trans (hPc k hk) hμ)], cap_lo (by grind)⟩
    have hs' : ∀ μ', μ ≤ μ' → L - c + ((a :: Pd).map fun k => cap μ' (cs.getD k 0)).sum = m := fun μ' hμ => by
      rw [List.map_cons, List.sum_cons, hca, (key μ' hμ).2, List.map_congr_left (key μ' hμ).1]
      grind
    have hL' : 0 ≤ L - c := by
      have : c * (((R'.length : Int) : Rat) + 1) ≤ μ * (((R'.length : Int) : Rat) + 1) := Rat.mul_le_mul_of_nonneg_right (by grind) (by grind)
      have e1 : c * (((R'.length : Int) : Rat) + 1) = c * ((R'.length : Int) : Rat) + c := by grind
      have e2 : 0 ≤ c * ((R'.length : Int) : Rat) := Rat.mul_nonneg ha0 hn0
      grind
    have hH : Half (L - c) := by
      obtain ⟨x, hx⟩ := hA
      obtain ⟨y, hy⟩ := hc a ha
      rw [hca] at hy
      exact ⟨x - y, by rw [Rat.intCast_sub]; grind⟩
    by_cases hz : R' = []
    · refine ⟨μ, ⟨hpm, hord, hs' μ Rat.le_refl, hL', by grind, hm0, fun e => absurd hz e, fun e => absurd hz e, h.fr, hub⟩, (key μ Rat.le_refl).1, (key μ Rat.le_refl).2⟩
    · have hlp : 0 < R'.length := List.length_pos_iff.mpr hz
      have hnp : (0 : Rat) < ((R'.length : Int) : Rat) := by rw [show (0 : Rat) = ((0 : Int) : Rat) from rfl, Rat.intCast_lt_intCast]; omega
      have hd : (L - c) / ((R'.length : Int) : Rat) * ((R'.length : Int) : Rat) = L - c := Rat.div_mul_cancel (Rat.ne_of_gt hnp)
      generalize hμ' : (L - c) / ((R'.length : Int) : Rat) = μ' at hd
      have hge : μ ≤ μ' := by
        refine Rat.not_lt.mp fun hn => ?_
        have := Rat.mul_lt_mul_of_pos_right hn hnp
        have e1 : μ * (((R'.length : Int) : Rat) + 1) = μ * ((R'.length : Int) : Rat) + μ := by grind
        grind
      refine ⟨μ', ⟨hpm, hord, hs' μ' hge, hL', by grind, by grind, fun _ => hd, fun _ => .inl hH, ⟨R'.length, by omega, ?_, ?_⟩, ?_⟩, (key μ' hge).1, (key μ' hge).2⟩
      · have := hpm.length_eq
        rw [List.length_append, List.length_cons, List.length_range] at this
        omega
      · obtain ⟨x, hx⟩ := hH
        refine ⟨x, ?_⟩
        rw [Rat.intCast_mul, ← hx]
        have : ((2 : Int) : Rat) = 2 := rfl
        rw [this]
        grind
      · have h1q : (1 : Rat) ≤ ((R'.length : Int) : Rat) := by rw [show (1 : Rat) = ((1 : Int) : Rat) from rfl, Rat.intCast_le_intCast]; omega
        have := Rat.mul_le_mul_of_nonneg_left h1q (show 0 ≤ μ' by grind)
        rw [hd, Rat.mul_one] at this
        grind
  · rw [if_neg hlt]
    have hge : μ ≤ c := by grind
    have ec : cap μ c = μ := cap_hi hge
    have hbig : ∀ j ∈ R', μ ≤ cs.getD j 0 := fun j hj => by
      have := hmin j (hsub j hj)
      grind
    have e1 : μ * (((R'.length : Int) : Rat) + 1) = μ * ((R'.length : Int) : Rat) + μ := by grind
    have e2 : μ * ((R'.length : Int) : Rat) = L - μ := by grind
    have hL1 : L - μ ≤ (R'.map fun k => cs.getD k 0).sum := by
      have := sum_le (l := R') (f := fun _ => μ) (g := fun k => cs.getD k 0) hbig
      rw [sum_const (k := μ) fun _ _ => rfl] at this
      grind
    have hL0 : 0 ≤ L - μ := by
      have := Rat.mul_nonneg hm0 hn0
      grind
    refine ⟨μ, ⟨hpm, hord, ?_, hL0, hL1, hm0, fun _ => e2, fun _ => .inr hbig, h.fr, hub⟩, fun _ _ => rfl, ec⟩
    rw [List.map_cons, List.sum_cons, hca, ec]
    grind
theorem LE.fin {cs : List Rat} {m : Rat} {Pd : List Nat} {L μ : Rat} (h : LE cs m Pd [] L μ) : Even cs m (cs.map (cap μ)) := by
  refine ⟨μ, rfl, ?_⟩
  have hl0 := h.l0
  have hl1 : L ≤ 0 := by simpa using h.l1
  have hs := h.sum
  have hp := h.pm
  rw [List.append_nil] at hp
  have e := perm_sum (hp.map fun k => cap μ (cs.getD k 0))
  have e2 : (List.range cs.length).map (fun k => cap μ (cs.getD k 0)) = cs.map (cap μ) := by
    conv => rhs; rw [← range_map cs]
    rw [List.map_map]
    rfl
  rw [← e2, ← e]
  grind
/-! ### fractions by at most twelfths -/
def Fr (q : Rat) : Prop := ∃ n : Int, 1 ≤ n ∧ n ≤ 6 ∧ ∃ x : Int, q * ((2 * n : Int) : Rat) = (x : Rat)
theorem two_cast : ((2 : Int) : Rat) = 2 := rfl
theorem one_cast : ((1 : Int) : Rat) = 1 := rfl
theorem zero_cast : ((0 : Int) : Rat) = 0 := rfl
theorem Half.fr {q : Rat} (h : Half q) : Fr q := by
  obtain ⟨x, hx⟩ := h
  exact ⟨1, by decide, by decide, x, by rw [Int.mul_one, two_cast]; exact hx⟩
theorem Fr.sub {c q : Rat} (hc : Half c) (h : Fr q) : Fr (c - q) := by
  obtain ⟨y, hy⟩ := hc
  obtain ⟨n, h1, h6, x, hx⟩ := h
  refine ⟨n, h1, h6, y * n - x, ?_⟩
  rw [Rat.intCast_sub, Rat.intCast_mul y n, ← hy, ← hx, Rat.intCast_mul 2 n, two_cast]
  grind
theorem half_int (i : Int) : Half (i : Rat) := ⟨i * 2, by rw [Rat.intCast_mul, two_cast]⟩
theorem half_half (i : Int) : Half ((i : Rat) / 2) := ⟨i, by rw [Rat.div_mul_cancel (by decide)]⟩
theorem Half.sub {c q : Rat} (hc : Half c) (h : Half q) : Half (c - q) := by
  obtain ⟨y, hy⟩ := hc
  obtain ⟨x, hx⟩ := h
  exact ⟨y - x, by rw [Rat.intCast_sub]; grind⟩
theorem frac_bd {q : Rat} {n x : Int} (h1 : 1 ≤ n) (hn : n ≤ 100) (e : q * (n : Rat) = (x : Rat)) (h0 : 0 ≤ q) (hq : q ≤ 10000) : Bd 60 q := by
  have hnq : (0 : Rat) < (n : Rat) := by rw [← zero_cast, Rat.intCast_lt_intCast]; omega
  have eq : q = Rat.divInt x n := by
    rw [Rat.divInt_eq_div, ← e, Rat.mul_div_cancel (Rat.ne_of_gt hnq)]
  have x0 : 0 ≤ x := by
    rw [← cast_le, zero_cast, ← e]
    exact Rat.mul_nonneg h0 (Rat.le_of_lt hnq)
  have x1 : x ≤ 10000 * n := by
    rw [← cast_le, ← e, Rat.intCast_mul]
    exact Rat.mul_le_mul_of_nonneg_right hq (Rat.le_of_lt hnq)
  rw [eq]
  exact Bd.of (by omega) (by omega) (by omega)
theorem Fr.bd {q : Rat} (h : Fr q) (h0 : 0 ≤ q) (hq : q ≤ 10000) : Bd 60 q := by
  obtain ⟨n, h1, h6, x, hx⟩ := h
  exact frac_bd (n := 2 * n) (by omega) (by omega) hx h0 hq
theorem LE.frm {cs : List Rat} {m : Rat} {Pd R : List Nat} {L μ : Rat} (h : LE cs m Pd R L μ) (hn : cs.length ≤ 6) : Fr μ := by
  obtain ⟨n, h1, h2, x, hx⟩ := h.fr
  exact ⟨n, h1, by omega, x, hx⟩
theorem Fr.cap {l c : Rat} (hl : Fr l) (hc : Fr c) : Fr (cap l c) := by unfold DL.cap; split <;> assumption
/-- what is dealt by one level -/
structure EvOk (cs : List Rat) (m : Rat) : Prop where
  n1 : 1 ≤ cs.length
  n6 : cs.length ≤ 6
  c : ∀ c ∈ cs, Half c ∧ 0 ≤ c ∧ c ≤ 1000
  hm : Half m
  m0 : 0 ≤ m
  m1 : m ≤ cs.sum
theorem sum_bdR {b : Rat} : ∀ {cs : List Rat}, (∀ c ∈ cs, c ≤ b) → cs.sum ≤ ((cs.length : Int) : Rat) * b
  | [], _ => by simp
  | c :: r, h => by
    have h1 := h c List.mem_cons_self
    have h2 := sum_bdR (cs := r) fun x hx => h x (List.mem_cons_of_mem _ hx)
    rw [List.sum_cons, List.length_cons]
    have : (((r.length + 1 : Nat) : Int) : Rat) = ((r.length : Int) : Rat) + 1 := by
      rw [show ((r.length + 1 : Nat) : Int) = (r.length : Int) + 1 by omega, Rat.intCast_add]; rfl
    rw [this]
    grind
theorem EvOk.mb {cs : List Rat} {m : Rat} (h : EvOk cs m) : m ≤ 6000 := by
  have h1 := sum_bdR (cs := cs) fun c hc => (h.c c hc).2.2
  have h2 := h.m1
  have h3 : ((cs.length : Int) : Rat) ≤ ((6 : Int) : Rat) := cast_le.mpr (by have := h.n6; omega)
  have h4 : ((6 : Int) : Rat) = 6 := rfl
  grind
def EvRes (qs : List Rat) : Prop := ∀ q ∈ qs, Fr q ∧ 0 ≤ q
theorem ev_bd {cs : List Rat} {m : Rat} {qs : List Rat} (h : EvOk cs m) (e : Even cs m qs) (f : EvRes qs) : ∀ q ∈ qs, Bd 60 q := fun q hq => by
  obtain ⟨l, rfl, _⟩ := e
  obtain ⟨c, hc, rfl⟩ := List.mem_map.mp hq
  have h1 := (cap_le l c).2
  have h2 := (h.c c hc).2.2
  exact (f _ hq).1.bd (f _ hq).2 (by grind)
abbrev lessL (cs qs : List Rat) : List Rat := List.zipWith (fun c q => c - q) cs qs
theorem lessL_sum : ∀ {cs qs : List Rat}, cs.length = qs.length → (lessL cs qs).sum = cs.sum - qs.sum
  | [], [], _ => by simp [lessL]; grind
  | c :: cs, q :: qs, h => by
    have ih := lessL_sum (cs := cs) (qs := qs) (by simpa using h)
    simp only [lessL, List.zipWith_cons_cons, List.sum_cons] at ih ⊢
    rw [ih]
    grind
  | [], _ :: _, h => by simp at h
  | _ :: _, [], h => by simp at h
/-! ### purses' claims -/
structure ClOk (cs : List Int) (m : Int) : Prop where
  n1 : 1 ≤ cs.length
  n6 : cs.length ≤ 6
  c : ∀ c ∈ cs, 0 ≤ c ∧ c ≤ 1000
  m0 : 0 ≤ m
  m1 : m ≤ cs.sum
theorem PurseOk.clOk {ns : List Str} {cs : List Int} {m : Int} (h : PurseOk ns cs m) : ClOk cs m := ⟨by have := h.cl; have := h.pe.p; omega, by have := h.cl; have := h.pe.l; omega, fun c hc => ⟨(h.c c hc).1, by have := (h.c c hc).2; omega⟩, h.m0, h.m1⟩
abbrev halfL (cs : List Int) : List Rat := cs.map fun (c : Int) => (c : Rat) / 2
theorem halfL_sum : ∀ cs : List Int, (halfL cs).sum = ((cs.sum : Int) : Rat) / 2
  | [] => by simp [halfL]; grind
  | c :: r => by
    have ih := halfL_sum r
    simp only [halfL, List.map_cons, List.sum_cons] at ih ⊢
    rw [ih, Rat.intCast_add]
    grind
theorem ClOk.even {cs : List Int} {m : Int} (h : ClOk cs m) : EvOk (rats cs) (m : Rat) := ⟨by rw [List.length_map]; exact h.n1, by rw [List.length_map]; exact h.n6, fun q hq => by
  obtain ⟨c, hc, rfl⟩ := List.mem_map.mp hq
  refine ⟨half_int c, cnn.mpr (h.c c hc).1, ?_⟩
  exact cast_le.mpr (h.c c hc).2, half_int m, cnn.mpr h.m0, by rw [rats_sum]; exact cast_le.mpr h.m1⟩
theorem ClOk.lack {cs : List Int} {m : Int} (h : ClOk cs m) : EvOk (rats cs) ((rats cs).sum - (m : Rat)) := by
  have h1 := h.even
  have h2 := h.m0
  refine ⟨h1.n1, h1.n6, h1.c, ?_, ?_, ?_⟩
  · rw [rats_sum]
    exact (half_int _).sub h1.hm
  · have := h1.m1
    grind
  · have := h1.m0
    grind
theorem ClOk.half_c {cs : List Int} {m : Int} (h : ClOk cs m) : ∀ c ∈ halfL cs, Half c ∧ 0 ≤ c ∧ c ≤ 1000 := fun q hq => by
  obtain ⟨c, hc, rfl⟩ := List.mem_map.mp hq
  have h1 : (0 : Rat) ≤ (c : Rat) := cnn.mpr (h.c c hc).1
  have h2 : (c : Rat) ≤ ((1000 : Int) : Rat) := cast_le.mpr (h.c c hc).2
  have h3 : ((1000 : Int) : Rat) = 1000 := rfl
  exact ⟨half_half c, by grind, by grind⟩
theorem ClOk.half1 {cs : List Int} {m : Int} (h : ClOk cs m) (hs : ¬ (halfL cs).sum < (m : Rat)) : EvOk (halfL cs) (m : Rat) :=
  ⟨by rw [List.length_map]; exact h.n1, by rw [List.length_map]; exact h.n6, h.half_c, half_int m, cnn.mpr h.m0, Rat.not_lt.mp hs⟩
theorem ClOk.half2 {cs : List Int} {m : Int} (h : ClOk cs m) (hs : (halfL cs).sum < (m : Rat)) : EvOk (halfL cs) ((rats cs).sum - (m : Rat)) := by
  refine ⟨by rw [List.length_map]; exact h.n1, by rw [List.length_map]; exact h.n6, h.half_c, h.lack.hm, h.lack.m0, ?_⟩
  rw [halfL_sum] at hs ⊢
  rw [rats_sum]
  grind
/-- awards: as the money, within the claims, small -/
structure Aw (cs : List Int) (m : Int) (qs : List Rat) : Prop where
  len : qs.length = cs.length
  bd : ∀ q ∈ qs, Bd 60 q
  in_ : ∀ (i : Nat) (c : Int) (q : Rat), cs[i]? = some c → qs[i]? = some q → 0 ≤ q ∧ q ≤ (c : Rat)
  sum : qs.sum = (m : Rat)
theorem aw_of {cs : List Int} {m : Int} {qs : List Rat} (h : ClOk cs m) (hl : qs.length = cs.length) (hf : ∀ q ∈ qs, Fr q) (hi : ∀ (i : Nat) (c : Int) (q : Rat), cs[i]? = some c → qs[i]? = some q → 0 ≤ q ∧ q ≤ (c : Rat)) (hs : qs.sum = (m : Rat)) : Aw cs m qs := ⟨hl, fun q hq => by
  obtain ⟨i, hi', e⟩ := List.getElem_of_mem hq
  have e1 : cs[i]? = some cs[i] := List.getElem?_eq_getElem (by omega)
  have := hi i _ q e1 (by rw [List.getElem?_eq_getElem hi', e])
  have h2 : ((cs[i] : Int) : Rat) ≤ ((1000 : Int) : Rat) := cast_le.mpr (h.c _ (List.mem_of_getElem? e1)).2
  have h3 : ((1000 : Int) : Rat) = 1000 := rfl
  exact (hf q hq).bd this.1 (by grind), hi, hs⟩
theorem rats_get {cs : List Int} {i : Nat} {c : Int} (h : cs[i]? = some c) : (rats cs)[i]? = some (c : Rat) := by rw [List.getElem?_map, h]; rfl
theorem lessL_get {cs ls : List Rat} {i : Nat} {c q : Rat} (h : cs[i]? = some c) (e : (lessL cs ls)[i]? = some q) : ∃ l, ls[i]? = some l ∧ q = c - l := by
  rw [List.getElem?_zipWith, h] at e
  cases hl : ls[i]? with
  | none => rw [hl] at e; cases e
  | some l => rw [hl] at e; exact ⟨l, rfl, (Option.some.inj e).symm⟩
theorem lessL_mem {cs ls : List Rat} {q : Rat} (h : q ∈ lessL cs ls) : ∃ c l, c ∈ cs ∧ l ∈ ls ∧ q = c - l := by
  obtain ⟨i, hi, e⟩ := List.getElem_of_mem h
  have hl : i < cs.length ∧ i < ls.length := by
    rw [List.length_zipWith] at hi
    omega
  refine ⟨cs[i], ls[i], List.getElem_mem _, List.getElem_mem _, ?_⟩
  rw [← e, List.getElem_zipWith]
theorem aw_even {cs : List Int} {m : Int} {qs : List Rat} (h : ClOk cs m) (e : Even (rats cs) (m : Rat) qs) (f : EvRes qs) : Aw cs m qs := by
  refine aw_of h (by rw [e.len, List.length_map]) (fun q hq => (f q hq).1) (fun i c q e1 e2 => ⟨(f q (List.mem_of_getElem? e2)).2, e.get (rats_get e1) e2⟩) ?_
  obtain ⟨_, _, hs⟩ := e
  exact hs
theorem aw_less {cs : List Int} {m : Int} {hs : List Rat} {ls : List Rat} (h : ClOk cs m) (hl : hs.length = cs.length) (hle : ∀ (i : Nat) (c : Int) (b : Rat), cs[i]? = some c → hs[i]? = some b → b ≤ (c : Rat)) (e : Even hs ((rats cs).sum - (m : Rat)) ls) (f : EvRes ls) : Aw cs m (lessL (rats cs) ls) := by
  have el := e.len
  refine aw_of h (by rw [List.length_zipWith, List.length_map]; omega) (fun q hq => ?_) (fun i c q e1 e2 => ?_) ?_
  · obtain ⟨c, l, hc, hl, rfl⟩ := lessL_mem hq
    exact Fr.sub (h.even.c c hc).1 (f l hl).1
  · obtain ⟨l, e3, rfl⟩ := lessL_get (rats_get e1) e2
    have hi := (List.getElem?_eq_some_iff.mp e1).1
    have e4 : hs[i]? = some hs[i] := List.getElem?_eq_getElem (by omega)
    have h1 := e.get e4 e3
    have h2 := hle i c _ e1 e4
    have h3 := (f l (List.mem_of_getElem? e3)).2
    exact ⟨by grind, by grind⟩
  · obtain ⟨_, _, hsum⟩ := e
    rw [lessL_sum (by rw [List.length_map]; omega), hsum]
    grind
theorem half_get {cs : List Int} {m : Int} (h : ClOk cs m) : ∀ (i : Nat) (c : Int) (b : Rat), cs[i]? = some c → (halfL cs)[i]? = some b → b ≤ (c : Rat) := fun i c b e1 e2 => by
  rw [List.getElem?_map, e1] at e2
  cases e2
  have h1 : (0 : Rat) ≤ (c : Rat) := cnn.mpr (h.c c (List.mem_of_getElem? e1)).1
  grind
theorem aw_half1 {cs : List Int} {m : Int} {qs : List Rat} (h : ClOk cs m) (e : Even (halfL cs) (m : Rat) qs) (f : EvRes qs) : Aw cs m qs := by
  refine aw_of h (by rw [e.len, List.length_map]) (fun q hq => (f q hq).1) (fun i c q e1 e2 => ⟨(f q (List.mem_of_getElem? e2)).2, ?_⟩) ?_
  · have hi := (List.getElem?_eq_some_iff.mp e1).1
    have e4 : (halfL cs)[i]? = some ((c : Rat) / 2) := by rw [List.getElem?_map, e1]; rfl
    exact Rat.le_trans (e.get e4 e2) (half_get h i c _ e1 e4)
  · obtain ⟨_, _, hs⟩ := e
    exact hs
/-- the four rules that reckon by levels and shares -/
inductive RuleAw (cs : List Int) (m : Int) : Str → List Rat → Prop where
  | even {qs} : Even (rats cs) (m : Rat) qs → RuleAw cs m "even" qs
  | losses {ls} : Even (rats cs) ((rats cs).sum - (m : Rat)) ls → RuleAw cs m "losses" (lessL (rats cs) ls)
  | shares : RuleAw cs m "shares" (shareOf cs m)
  | half1 {qs} : ¬ (halfL cs).sum < (m : Rat) → Even (halfL cs) (m : Rat) qs → RuleAw cs m "halves" qs
  | half2 {ls} : (halfL cs).sum < (m : Rat) → Even (halfL cs) ((rats cs).sum - (m : Rat)) ls → RuleAw cs m "halves" (lessL (rats cs) ls)
theorem RuleAw.inv {cs : List Int} {m : Int} {r : Str} {qs : List Rat} (h : RuleAw cs m r qs) : (r = "even" ∧ Even (rats cs) (m : Rat) qs) ∨ (r = "losses" ∧ ∃ ls, Even (rats cs) ((rats cs).sum - (m : Rat)) ls ∧ qs = lessL (rats cs) ls) ∨ (r = "shares" ∧ qs = shareOf cs m) ∨
    (r = "halves" ∧ ¬ (halfL cs).sum < (m : Rat) ∧ Even (halfL cs) (m : Rat) qs) ∨ (r = "halves" ∧ (halfL cs).sum < (m : Rat) ∧ ∃ ls, Even (halfL cs) ((rats cs).sum - (m : Rat)) ls ∧ qs = lessL (rats cs) ls) := by
  cases h with
  | even h => exact .inl ⟨rfl, h⟩
  | losses h => exact .inr (.inl ⟨rfl, _, h, rfl⟩)
  | shares => exact .inr (.inr (.inl ⟨rfl, rfl⟩))
  | half1 h1 h2 => exact .inr (.inr (.inr (.inl ⟨rfl, h1, h2⟩)))
  | half2 h1 h2 => exact .inr (.inr (.inr (.inr ⟨rfl, h1, _, h2, rfl⟩)))
theorem RuleAw.uniq {cs : List Int} {m : Int} {r : Str} {qs qs' : List Rat} (hA : RuleAw cs m r qs) (hB : RuleAw cs m r qs') : qs = qs' := by
  have n1 : ("even" : Str) ≠ "losses" := by decide +kernel
  have n2 : ("even" : Str) ≠ "shares" := by decide +kernel
  have n3 : ("even" : Str) ≠ "halves" := by decide +kernel
  have n4 : ("losses" : Str) ≠ "shares" := by decide +kernel
  have n5 : ("losses" : Str) ≠ "halves" := by decide +kernel
  have n6 : ("shares" : Str) ≠ "halves" := by decide +kernel
  rcases hA.inv with ⟨rfl, f⟩ | ⟨rfl, ls, f, rfl⟩ | ⟨rfl, rfl⟩ | ⟨rfl, h1, f⟩ | ⟨rfl, h1, ls, f, rfl⟩ <;>
    rcases hB.inv with ⟨e, g⟩ | ⟨e, ls', g, rfl⟩ | ⟨e, rfl⟩ | ⟨e, g1, g⟩ | ⟨e, g1, ls', g, rfl⟩ <;>
    first
      | exact absurd e n1 | exact absurd e n2 | exact absurd e n3 | exact absurd e n4 | exact absurd e n5 | exact absurd e n6
      | exact absurd e.symm n1 | exact absurd e.symm n2 | exact absurd e.symm n3 | exact absurd e.symm n4 | exact absurd e.symm n5 | exact absurd e.symm n6
      | exact f.uniq g
      | exact congrArg (lessL (rats cs)) (f.uniq g)
      | rfl
      | exact absurd h1 g1
      | exact absurd g1 h1
/-! ### whole numbers of a part -/
def wh (B : Nat) (q : Rat) : Int := q.num * ((B : Int) / (q.den : Int))
theorem mul_den (q : Rat) : q * ((q.den : Int) : Rat) = ((q.num : Int) : Rat) := by
  have h : q = Rat.divInt q.num q.den := (Rat.num_divInt_den q).symm
  have hp : (0 : Rat) < ((q.den : Int) : Rat) := by rw [← zero_cast, Rat.intCast_lt_intCast]; exact nn_of
  conv => lhs; lhs; rw [h, Rat.divInt_eq_div]
  exact Rat.div_mul_cancel (Rat.ne_of_gt hp)
theorem wh_eq {B : Nat} {q : Rat} (h : q.den ∣ B) : ((wh B q : Int) : Rat) = q * ((B : Int) : Rat) := by
  obtain ⟨t, rfl⟩ := h
  unfold wh
  have h0 : (q.den : Int) ≠ 0 := den_ne q
  rw [Int.natCast_mul, Int.mul_ediv_cancel_left _ h0, Rat.intCast_mul, ← mul_den, Rat.intCast_mul, Rat.mul_assoc]
theorem half_den {q : Rat} (h : Half q) : q.den = 1 ∨ q.den = 2 := by
  obtain ⟨x, hx⟩ := h
  have e : q = Rat.divInt x 2 := by
    rw [Rat.divInt_eq_div, ← hx, two_cast, Rat.mul_div_cancel (by decide)]
  have hd : q.den ∣ 2 := by
    rw [e, Rat.den_divInt, if_neg (by decide)]
    exact Nat.div_dvd_of_dvd (by
      have : ((Int.gcd 2 x : Nat) : Int) ∣ 2 := Int.gcd_dvd_left 2 x
      exact Int.natCast_dvd_natCast.mp this)
  have h1 := Nat.le_of_dvd (by decide) hd
  have h2 := q.den_pos
  omega
theorem lcm_12 {a b : Nat} (ha : a = 1 ∨ a = 2) (hb : b = 1 ∨ b = 2) : Nat.lcm a b = 1 ∨ Nat.lcm a b = 2 := by
  rcases ha with rfl | rfl <;> rcases hb with rfl | rfl <;> decide
theorem cap_mul {l c b : Rat} (hb : 0 < b) : cap (l * b) (c * b) = cap l c * b := by
  unfold cap
  by_cases h : l < c
  · rw [if_pos h, if_pos ((Rat.mul_lt_mul_right hb).mpr h)]
  · rw [if_neg h, if_neg fun z => h ((Rat.mul_lt_mul_right hb).mp z)]
theorem level_res {cs : List Rat} {m : Rat} {B : Nat} {rows : List Int} {i : Nat} {r L Z : Int} (hB : B = 1 ∨ B = 2) (hd : ∀ c ∈ cs, c.den ∣ B) (hm : m.den ∣ B) (hp : rows.Perm (cs.map (wh B))) (hs : rows.Pairwise fun x y => x ≤ y) (hr : rows[i]? = some r) (hlo : ∀ x ∈ rows.take i, x ≤ L) (hL : L ≤ r) (L0 : 0 ≤ L) (Z0 : 0 ≤ Z)
    (hZ : Z = wh B m - (rows.take i).sum - ((rows.length : Int) - i) * L) (hge : Z ≤ ((rows.length : Int) - i) * (r - L)) (h6 : rows.length ≤ 6) (hc : ∀ c ∈ cs, c ≤ 1000) :
    ∃ l, l = Rat.divInt (L * ((rows.length : Int) - i) + Z) (((rows.length : Int) - i) * B) ∧ (cs.map (cap l)).sum = m ∧ Fr l ∧ 0 ≤ l ∧ l ≤ 1000 := by
  have hi := (List.getElem?_eq_some_iff.mp hr).1
  generalize hn' : (rows.length : Int) - i = n at *
  have hn1 : 1 ≤ n ∧ n ≤ 6 := by omega
  have hnq : (0 : Rat) < (n : Rat) := by rw [← zero_cast, Rat.intCast_lt_intCast]; omega
  have hBq : (0 : Rat) < ((B : Int) : Rat) := by rw [← zero_cast, Rat.intCast_lt_intCast]; omega
  have hne : (((n * B : Int)) : Rat) ≠ 0 := by
    rw [Rat.intCast_mul]
    exact Rat.ne_of_gt (Rat.mul_pos hnq hBq)
  refine ⟨_, rfl, ?_⟩
  generalize hl : Rat.divInt (L * n + Z) (n * (B : Int)) = l
  have el : l * ((B : Int) : Rat) * (n : Rat) = ((L * n + Z : Int) : Rat) := by
    rw [← hl, Rat.divInt_eq_div, Rat.mul_assoc, Rat.mul_comm ((B : Int) : Rat), ← Rat.intCast_mul, Rat.div_mul_cancel hne]
  have lev := level_ok (l := l * ((B : Int) : Rat)) hr hs hlo hL Z0 (by rw [hn']; exact hge) (by rw [hn']; exact el)
  rw [hn', show (rows.take i).sum + n * L + Z = wh B m by omega, wh_eq hm] at lev
  have e1 : (rows.map fun (x : Int) => cap (l * ((B : Int) : Rat)) (x : Rat)).sum = (cs.map (cap l)).sum * ((B : Int) : Rat) := by
    rw [perm_sum (hp.map _), List.map_map, ← sum_mulR, List.map_map]
    refine congrArg _ (List.map_congr_left fun c hc => ?_)
    simp only [Function.comp]
    rw [wh_eq (hd c hc), cap_mul hBq]
  have hk0 : 0 ≤ L * n + Z := by
    have := Int.mul_nonneg L0 (show 0 ≤ n by omega)
    omega
  have hl0 : 0 ≤ l := by
    refine Rat.not_lt.mp fun h => ?_
    have h1 := Rat.mul_lt_mul_of_pos_right (Rat.mul_lt_mul_of_pos_right h hBq) hnq
    rw [el, Rat.zero_mul, Rat.zero_mul, ← zero_cast, Rat.intCast_lt_intCast] at h1
    omega
  refine ⟨?_, ?_, hl0, ?_⟩
  · rw [e1] at lev
    have h2 : ((cs.map (cap l)).sum - m) * ((B : Int) : Rat) = 0 := by grind
    rcases Rat.mul_eq_zero.mp h2 with h | h
    · grind
    · exact absurd h (Rat.ne_of_gt hBq)
  · rcases hB with rfl | rfl
    · refine ⟨n, hn1.1, hn1.2, 2 * (L * n + Z), ?_⟩
      rw [Rat.intCast_mul 2 n, Rat.intCast_mul 2 (L * n + Z), ← el, two_cast]
      have : (((1 : Nat) : Int) : Rat) = 1 := rfl
      rw [this]
      grind
    · refine ⟨n, hn1.1, hn1.2, L * n + Z, ?_⟩
      rw [Rat.intCast_mul 2 n, ← el, two_cast]
      have : (((2 : Nat) : Int) : Rat) = 2 := rfl
      rw [this]
      grind
  · obtain ⟨c, hcm, ec⟩ := List.mem_map.mp (hp.mem_iff.mp (List.mem_of_getElem? hr))
    have h3 := wh_eq (hd c hcm)
    rw [ec] at h3
    have h4 := hc c hcm
    refine Rat.not_lt.mp fun h => ?_
    have h5 : c < l := by grind
    have h6 := Rat.mul_lt_mul_of_pos_right (Rat.mul_lt_mul_of_pos_right h5 hBq) hnq
    rw [el, ← h3, ← Rat.intCast_mul, Rat.intCast_lt_intCast] at h6
    have e : n * (r - L) = r * n - L * n := by rw [Int.mul_sub, Int.mul_comm n r, Int.mul_comm n L]
    omega
theorem rows_after {rows : List Int} {i : Nat} {r : Int} (hr : rows[i]? = some r) (hs : rows.Pairwise fun x y => x ≤ y) : ∀ x ∈ rows.drop (i + 1), r ≤ x := fun x hx => by
  have hi := (List.getElem?_eq_some_iff.mp hr).1
  obtain ⟨k, hk, e⟩ := List.getElem_of_mem hx
  rw [List.getElem_drop] at e
  have hk2 : i + 1 + k < rows.length := by rw [List.length_drop] at hk; omega
  have er : rows[i] = r := by rw [List.getElem?_eq_getElem hi] at hr; exact Option.some.inj hr
  rw [← e, ← er]
  exact List.pairwise_iff_getElem.mp hs i (i + 1 + k) hi hk2 (by omega)
theorem atI_mapN {α : Type} {f : α → D} {xs : List α} {i : Nat} {x : α} (h : xs[i]? = some x) : atI (xs.map f) (i : Int) = some (f x) := by
  have := atI_map (f := f) h
  rwa [Int.zero_add] at this
theorem rangeD0 (n : Nat) : rangeD 0 n = (List.range n).map fun (k : Nat) => D.int (k : Int) := by
  unfold rangeD
  exact List.map_congr_left fun i _ => by rw [Int.zero_add]
theorem LE.lt {cs : List Rat} {m : Rat} {Pd R : List Nat} {L μ : Rat} (h : LE cs m Pd R L μ) : (∀ k ∈ R, k < cs.length) ∧ ∀ k ∈ Pd, k < cs.length := ⟨fun k hk => List.mem_range.mp (h.pm.mem_iff.mp (List.mem_append_right _ hk)), fun k hk => List.mem_range.mp (h.pm.mem_iff.mp (List.mem_append_left _ hk))⟩
theorem LE.frL {cs : List Rat} {m : Rat} {Pd R : List Nat} {L μ : Rat} (h : LE cs m Pd R L μ) (hn : cs.length ≤ 6) (hne : R ≠ []) : Fr L := by
  obtain ⟨n, h1, h2, x, hx⟩ := h.fr
  refine ⟨n, h1, by omega, x * R.length, ?_⟩
  rw [← h.mu hne, Rat.intCast_mul x, ← hx]
  grind
theorem LE.lm {cs : List Rat} {m : Rat} {Pd R : List Nat} {L μ : Rat} (h : LE cs m Pd R L μ) (h0 : ∀ k, 0 ≤ cs.getD k 0) : L ≤ m := by
  have : 0 ≤ (Pd.map fun k => cap μ (cs.getD k 0)).sum := by
    have := sum_le (l := Pd) (f := fun _ => 0) (g := fun k => cap μ (cs.getD k 0)) fun k _ => cap_nn h.m0 (h0 k)
    rw [sum_const (k := 0) fun _ _ => rfl] at this
    grind
  have := h.sum
  grind
theorem LE.share {cs : List Rat} {m : Rat} {Pd R : List Nat} {L μ : Rat} (h : LE cs m Pd R L μ) (hne : R ≠ []) : (0 : Rat) < ((R.length : Int) : Rat) ∧ L / ((R.length : Int) : Rat) = μ := by
  have hp : (0 : Rat) < ((R.length : Int) : Rat) := by
    rw [← zero_cast, Rat.intCast_lt_intCast]
    have := List.length_pos_iff.mpr hne
    omega
  exact ⟨hp, by rw [← h.mu hne, Rat.mul_div_cancel (Rat.ne_of_gt hp)]⟩
theorem getD_some {cs : List Rat} {k : Nat} (h : k < cs.length) : cs[k]? = some (cs.getD k 0) := by
  rw [List.getD_eq_getElem?_getD, List.getElem?_eq_getElem h]
  rfl
/-- all items that pass -/
theorem lcW_filter {mg : D → (DEnv → Prop) → DEnv → Prop} {mc : DEnv → M Bool} {me : DEnv → M D} {ρ : DEnv} {Q : List D → Prop} {α : Type} {f g : α → D} {p : α → Bool} : ∀ (items : List α) (acc : List D), (∀ x ∈ items, ∀ k : DEnv → Bool → Prop, ∀ ke : DEnv → D → Prop, (∀ ρ', (∀ e : D → Prop, e (g x) → me ρ' e fun _ => False) → k ρ' (p x)) → mg (f x) (fun ρ' => mc ρ' (k ρ') fun _ => False) ρ) → Q (acc ++ (items.filter p).map g) →
    lcW mg mc me ρ acc (items.map f) Q
  | [], acc, _, hq => by simpa [lcW] using hq
  | x :: r, acc, h, hq => by
    rw [List.map_cons]
    unfold lcW
    refine h x List.mem_cons_self (fun ρ' b => if b = true then me ρ' (fun y => lcW mg mc me ρ (acc ++ [y]) (r.map f) Q) (fun _ => False) else lcW mg mc me ρ acc (r.map f) Q) (fun _ _ => True) fun ρ' he => ?_
    cases hp : p x with
    | true =>
      rw [if_pos rfl]
      refine he _ ?_
      refine lcW_filter (p := p) (g := g) r _ (fun y hy => h y (List.mem_cons_of_mem _ hy)) ?_
      rw [List.filter_cons_of_pos hp, List.map_cons] at hq
      simpa using hq
    | false =>
      rw [if_neg (by decide)]
      refine lcW_filter (p := p) (g := g) r _ (fun y hy => h y (List.mem_cons_of_mem _ hy)) ?_
      rwa [List.filter_cons_of_neg (by simp [hp])] at hq
/-! ### promises -/
def sp_common : FS := fun ds Q E => ∃ (d : D) (qs : List Rat), ds = [d] ∧ seqD d = some (qs.map rD) ∧ (∀ q ∈ qs, Half q) ∧ ∀ B : Nat, (B = 1 ∨ B = 2) → (∀ q ∈ qs, q.den ∣ B) → Q (.int B)
def sp_whole_of : FS := fun ds Q E => ∃ (q : Rat) (B : Nat), ds = [rD q, .int B] ∧ (B = 1 ∨ B = 2) ∧ q.den ∣ B ∧ Bd 60 q ∧ Q (.int (wh B q))
def sp_level : FS := fun ds Q E => ∃ (cs : List Rat) (m : Rat), ds = [.lst (cs.map rD), rD m] ∧ EvOk cs m ∧ ∀ l, (cs.map (cap l)).sum = m → Fr l → 0 ≤ l → l ≤ 1000 → Q (rD l)
def sp_even : FS := fun ds Q E => ∃ (cs : List Rat) (m : Rat), ds = [.lst (cs.map rD), rD m] ∧ EvOk cs m ∧ ∀ qs, Even cs m qs → EvRes qs → Q (.tup (qs.map rD))
def sp_laweven : FS := fun ds Q E => ∃ (cs : List Rat) (m : Rat), ds = [.lst (cs.map rD), rD m] ∧ EvOk cs m ∧ ∀ qs, Even cs m qs → EvRes qs → Q (.lst (qs.map rD))
def sp_less_losses : FS := fun ds Q E => ∃ (cs ls : List Rat) (d : D), ds = [.lst (cs.map rD), d] ∧ seqD d = some (ls.map rD) ∧ cs.length = ls.length ∧ cs.length ≤ 100 ∧ (∀ c ∈ cs, Bd 60 c) ∧ (∀ l ∈ ls, Bd 60 l) ∧ Q (.tup ((lessL cs ls).map rD))
def sp_rule (r : Str) : FS := fun ds Q E => ∃ (cs : List Int) (m : Int), ds = [.lst ((rats cs).map rD), rD (m : Rat)] ∧ ClOk cs m ∧ ∀ qs, RuleAw cs m r qs → Aw cs m qs → Q (.tup (qs.map rD))
def sp_dealtR (keep : List Str) : FS := fun ds Q E => ∃ (cs : List Int) (m : Int) (r : Str), ds = [.lst ((rats cs).map rD), rD (m : Rat), .str r] ∧ r ∈ keep ∧ ClOk cs m ∧ ∀ qs, RuleAw cs m r qs → Aw cs m qs → Q (.lst (qs.map rD))
def sp_lawawardsR (keep : List Str) : FS := fun ds Q E => ∃ (ns : List Str) (cs : List Int) (m : Int) (r : Str), ds = [partsD ns cs m, .str r] ∧ r ∈ keep ∧ PurseOk ns cs m ∧ ∀ qs, RuleAw cs m r qs → Aw cs m qs → Q (.tup (qs.map rD))
end DL

/-! DMut: own lists that are taken from, own dicts that are asked with a default, stores beside names. -/
namespace DL
open PySem PySem.Spec PyProof.Rows L2
theorem Uo_put {z : Zc} {O : List Nat} {oa : Nat → Addr} {ρ : DEnv} {i : Nat} {d0 d : D} (hi : i ∈ O) (h : ρ[i]? = some (some d0)) : Uo z O oa (ρ.set i (some d)) = Uo z O oa ρ := by
  have hlt : i < ρ.length := (List.getElem?_eq_some_iff.mp h).1
  funext a
  apply propext
  constructor
  · rintro (q | ⟨k, hk, ⟨d', h'⟩, e⟩)
    · exact .inl q
    · rcases set_some h' with ⟨q, _, _⟩ | ⟨_, h'⟩
      · exact .inr ⟨k, hk, ⟨d0, by rw [q]; exact h⟩, e⟩
      · exact .inr ⟨k, hk, ⟨d', h'⟩, e⟩
  · rintro (q | ⟨k, hk, ⟨d', h'⟩, e⟩)
    · exact .inl q
    · by_cases q : k = i
      · exact .inr ⟨k, hk, ⟨d, by rw [q, List.getElem?_set_self hlt]⟩, e⟩
      · exact .inr ⟨k, hk, ⟨d', by rw [List.getElem?_set_ne (Ne.symm q)]; exact h'⟩, e⟩
theorem Reps.erase {K : PySem.W.Frag} {U : Addr → Prop} {H : Hp} : ∀ {ds : List D} {xs : List V} (n : Nat), Reps K U H ds xs → Reps K U H (ds.eraseIdx n) (xs.eraseIdx n)
  | [], xs, n, h => by
    simp only [Reps] at h
    subst h
    simpa using Reps.nil
  | d :: ds, xs, n, h => by
    simp only [Reps] at h
    obtain ⟨x, t, rfl, r1, r2⟩ := h
    cases n with
    | zero => simpa using r2
    | succ n => simpa using Reps.cons r1 (Reps.erase n r2)
section
variable {X : Cx} {z : Zc} {O : List Nat} {a b o i e f : Expr} {ta tb to ti te tf : TE} {ma mb mo mi me mf : DEnv → M D} {pos pos' ppos ipos apos cpos bpos dpos jpos : Pos} {k' : Nat} {x y w : Str}
/-- x.append(y.pop(e)), both the def's own -/
theorem tms_appPop0 {i j : Nat} (ha : TMe z ta ma) (hi : i ∈ O) (hj : j ∈ O) (hij : i ≠ j) : TMs0 z O (tApp z.K i (tBM z.K "list" rPopAt (tVar j) (tCons ta tNil))) (fun κ E ρ => mOwn i ρ fun ds => mOwn j ρ fun es => ma ρ (fun d => ∃ (n : Nat) (u : D), d = .int n ∧ n < 1000000 ∧ es[n]? = some u ∧ ds.length < sizeLine ∧ κ.nx ((ρ.set j (some (.lst (es.eraseIdx n)))).set i (some (.lst (ds ++ [u]))))) E) := fun oa σ H ρ Dn κ E s hE ko hm => by
  obtain ⟨ds, hρi, hm⟩ := mOwn_inv hm
  obtain ⟨es, hρj, hm⟩ := mOwn_inv hm
  obtain ⟨_, xs, e1, e2, r⟩ := s.ownL hi hρi
  obtain ⟨_, ys, f1, f2, q⟩ := s.ownL hj hρj
  refine ⟨_, e1, .inl ⟨rfl, _, SqL.of e2⟩, _, f1, .inl ⟨rfl, _, SqL.of f2⟩, ha _ σ H _ _ _ E s.full hE hm fun d v H1 h1 g1 j1 r1 => ?_⟩
  obtain ⟨n, u, rfl, hn, hu, hz, hk⟩ := h1
  have s1 := s.step g1 j1
  obtain ⟨nui, xs1, e1', e2', r'⟩ := s1.ownL hi hρi
  obtain ⟨nuj, ys1, f1', f2', q'⟩ := s1.ownL hj hρj
  obtain ⟨vu, hvu, ru⟩ := q'.getD hu
  have hlt := (List.getElem?_eq_some_iff.mp hvu).1
  refine ⟨oa j, ys1, (n : Int), n, vu, rfl, by rw [inv_int r1], f2', by omega, by omega, PySem.StrLaws.seqIndex_nonneg (by omega) (by omega), hvu, ?_⟩
  have inU : Uo z O oa ρ (oa j) := .inr ⟨j, hj, ⟨_, hρj⟩, rfl⟩
  have ne : oa i ≠ oa j := fun q => hij (s1.inj i j hi hj ⟨_, hρi⟩ ⟨_, hρj⟩ q)
  have s2 := s1.put hj hρj (q'.erase n)
  have hρi2 : (ρ.set j (some (.lst (es.eraseIdx n))))[i]? = some (some (.lst ds)) := by rw [List.getElem?_set_ne (Ne.symm hij)]; exact hρi
  have mv : ∀ {d : D} {v : V}, Rep z.K (Uo z O oa ρ) H1 d v → Rep z.K (Uo z O oa (ρ.set j (some (.lst (es.eraseIdx n))))) (upd H1 (oa j) (.lst (ys1.eraseIdx n))) d v := fun {d v} r => by
    rw [Uo_put hj hρj]
    exact Rep.mono' (fun b o hb nb => ⟨by rw [upd_ne fun q => nb (by rw [q]; exact inU)]; exact hb, nb⟩) d v r
  have mvs : ∀ {d : List D} {v : List V}, Reps z.K (Uo z O oa ρ) H1 d v → Reps z.K (Uo z O oa (ρ.set j (some (.lst (es.eraseIdx n))))) (upd H1 (oa j) (.lst (ys1.eraseIdx n))) d v := fun {d v} r => by
    rw [Uo_put hj hρj]
    exact Reps.mono' (fun b o hb nb => ⟨by rw [upd_ne fun q => nb (by rw [q]; exact inU)]; exact hb, nb⟩) d v r
  refine ⟨oa i, xs1, vu, rfl, rfl, by rw [upd_ne ne]; exact e2', by rw [r'.length]; exact hz, ko.nx oa _ _ _ (s2.put hi hρi2 ((mvs r').append (Reps.cons (mv ru) Reps.nil))) hk⟩
theorem ds_appPop (i j : Nat) (hK : X.K = z.K) (ha : DE X z a ta ma) (hi : i ∈ O := by decide) (hj : j ∈ O := by decide) (hij : i ≠ j := by decide) (hN : X.N[i]? = some x := by rfl) (hNj : X.N[j]? = some y := by rfl) (hv : Vis X.env.scope x := by first | exact Or.inl rfl | exact Or.inr (Or.inl rfl) | exact Or.inr (Or.inr rfl)) (hvj : Vis X.env.scope y := by first | exact Or.inl rfl | exact Or.inr (Or.inl rfl) | exact Or.inr (Or.inr rfl))
    (hd : (x == ("__debug__" : Str)) = false := by decide) (hcd : (x == ("__classdict__" : Str)) = false := by decide) (hdj : (y == ("__debug__" : Str)) = false := by decide) (hcdj : (y == ("__classdict__" : Str)) = false := by decide)
    (hbase2 : attributeBase (.Name y jpos) "pop" X.env (eval (.Name y jpos) X.env) = eval (.Name y jpos) X.env := by rfl)
    (hfew2 : ((backTo dpos (starEach [a] X.env)).all (fun x => !x.1) && (backToKw dpos (keywordEach [] X.env)).all (fun x => x.1.isSome)
      && decide ([a].length + ([] : List Keyword).length + (if ([] : List Keyword).isEmpty then 0 else 1) < 30)) = true := by rfl)
    (hline2 : (bpos.endLine == dpos.line) = true := by rfl) (hs2 : starEach [a] X.env = (false, eval a X.env) :: starEach [] X.env := by rfl) (hplain2 : (backTo dpos (starEach [] X.env)).any (·.1) = false := by rfl)
    (hbase : attributeBase (.Name x ipos) "append" X.env (eval (.Name x ipos) X.env) = eval (.Name x ipos) X.env := by rfl)
    (hfew : ((backTo cpos (starEach [.Call (.Attribute (.Name y jpos) "pop" bpos) [a] [] dpos] X.env)).all (fun x => !x.1) && (backToKw cpos (keywordEach [] X.env)).all (fun x => x.1.isSome)
      && decide ([Expr.Call (.Attribute (.Name y jpos) "pop" bpos) [a] [] dpos].length + ([] : List Keyword).length + (if ([] : List Keyword).isEmpty then 0 else 1) < 30)) = true := by rfl)
    (hline : (apos.endLine == cpos.line) = true := by rfl) (hs : starEach [.Call (.Attribute (.Name y jpos) "pop" bpos) [a] [] dpos] X.env = (false, eval (.Call (.Attribute (.Name y jpos) "pop" bpos) [a] [] dpos) X.env) :: starEach [] X.env := by rfl) (hplain : (backTo cpos (starEach [] X.env)).any (·.1) = false := by rfl)
    (hsw : swapsWith (.Call (.Attribute (.Name x ipos) "append" apos) [.Call (.Attribute (.Name y jpos) "pop" bpos) [a] [] dpos] [] cpos) none pos.line X.env = pure false := by rfl) :
    DS X z O (.Expr (.Call (.Attribute (.Name x ipos) "append" apos) [.Call (.Attribute (.Name y jpos) "pop" bpos) [a] [] dpos] [] cpos) pos) (tApp z.K i (tBM z.K "list" rPopAt (tVar j) (tCons ta tNil))) (fun κ E ρ => mOwn i ρ fun ds => mOwn j ρ fun es => ma ρ (fun d => ∃ (n : Nat) (u : D), d = .int n ∧ n < 1000000 ∧ es[n]? = some u ∧ ds.length < sizeLine ∧ κ.nx ((ρ.set j (some (.lst (es.eraseIdx n)))).set i (some (.lst (ds ++ [u]))))) E) :=
  ⟨by
    rw [← hK]
    exact ps_expr (pe_bm PySem.F.plainAttrs_list PySem.F.slot_list_append PySem.F.type_list_append mt_append (pv i hN hv hd hcd) (pa_cons (pe_bm PySem.F.plainAttrs_list PySem.F.slot_list_pop PySem.F.type_list_pop mt_popAt (pv j hNj hvj hdj hcdj) (pa_cons ha.pe pa_nil hs2) hbase2 hfew2 hline2 hs2 hplain2) pa_nil hs) hbase hfew hline hs hplain) hsw, tms_of fun kp => tms_appPop0 (ha.tm.keep kp) hi hj hij⟩
/-! ### a walk over range(..) of the def's own things -/
theorem ds_forRF {tg : Expr} {body : List Stmt} {g : TG} {mg : D → (DEnv → Prop) → DEnv → Prop} {tb : TS} {mb : MS} {rp : Pos} (hp : PassesOwn (model X.prog X.w) X.A X.env X.xe) (hc : X.calm = true) (hm : X.mg "range" = none) (ha : DE X z a ta ma) (hg : DG X z O tg g mg) (hb : DSs X z O body tb mb) (hs : ∀ x, foldedSetIterable (.Call (.Name "range" rp) [a] [] ppos) X.env x = pure x)
    (hgl : Gl X "range" := by rfl) (hst : starEach [a] X.env = [(false, eval a X.env)] := by rfl) :
    DS X z O (.For tg (.Call (.Name "range" rp) [a] [] ppos) body [] pos) (tFor (iRng1 (tCons ta tNil)) g tb) (fun κ E ρ => ma ρ (fun d => asRange1 [d] (fun items => forW mg mb κ E items ρ) E) E) := ⟨ps_for hp hc (pi_range1 hgl hm (pa_cons ha.pe pa_nil hst) hst) hg.pg hb.ps hs, fun kp oa σ H ρ Dn κ E s hE ko hq => by
  refine (ha.tm.keep kp) _ σ H _ _ _ E s.full hE hq fun d v H1 hd e1 j1 r1 => ?_
  cases d with
  | int n =>
    obtain ⟨hn, hf0⟩ := hd
    have s1 : SO (z.keep kp) O oa σ H1 ρ := s.step e1 j1
    refine ⟨n, by rw [inv_int r1], hn.1, hn.2, fun i m σ' H' => ∃ oa' ρ', i ≤ n.toNat ∧ m = n.toNat - i ∧ SO (z.keep kp) O oa' σ' H' ρ' ∧ forW mg mb κ E ((rangeD 0 n.toNat).drop i) ρ', ⟨_, oa, ρ, Nat.zero_le _, rfl, s1, by rw [List.drop_zero]; exact hf0⟩, ?_⟩
    rintro i m σ' H' ⟨oa', ρ', hil, rfl, s', hf⟩
    have hrl : (rangeD 0 n.toNat).length = n.toNat := by simp [rangeD]
    by_cases hlt : i < n.toNat
    · have hlt' : i < (rangeD 0 n.toNat).length := by rw [hrl]; exact hlt
      have hit : (rangeD 0 n.toNat)[i] = .int (0 + (i : Int)) := by simp [rangeD]
      rw [List.drop_eq_getElem_cons hlt', hit] at hf
      refine .inr ⟨hlt, fun σ2 H2 => ∃ oa2 ρ2, SO (z.keep kp) O oa2 σ2 H2 ρ2 ∧ forW mg mb κ E ((rangeD 0 n.toNat).drop (i + 1)) ρ2, fun σ2 H2 ⟨oa2, ρ2, s2, h2⟩ => ⟨n.toNat - (i + 1), by omega, oa2, ρ2, hlt, rfl, s2, h2⟩, fun x H2 hy => ?_⟩
      obtain ⟨rfl, rfl⟩ := hy
      refine hg.tm kp oa' σ' _ ρ' _ _ _ _ s' rep_int hf fun oa3 σ3 H3 ρ3 s3 h3 => ?_
      exact hb.tm kp oa3 σ3 H3 ρ3 _ { nx := forW mg mb κ E ((rangeD 0 n.toNat).drop (i + 1)), rt := κ.rt, bk := κ.nx, ct := forW mg mb κ E ((rangeD 0 n.toNat).drop (i + 1)) } E s3 hE ⟨fun oa σ H ρ s q => ⟨oa, ρ, s, q⟩, ko.rt, fun oa σ H ρ s q => ko.nx oa σ H ρ s q, fun oa σ H ρ s q => ⟨oa, ρ, s, q⟩⟩ h3
    · have e : i = n.toNat := by omega
      subst e
      rw [List.drop_eq_nil_of_le (by rw [hrl]; exact Nat.le_refl _)] at hf
      exact .inl ⟨Nat.le_refl _, ko.nx oa' σ' H' ρ' s' hf⟩
  | _ => exact hd.elim⟩
/-! ### asked with a default -/
abbrev asDK (d : D) : M Unit := fun Q _ => match d with | .dK _ _ => Q () | _ => False
theorem tm_dget2 (ho : TMe z to mo) (hi : TMe z ti mi) (hf : TMe z tf mf) : TMe z (tDGet2 to ti tf) (fun ρ => bnd (mo ρ) fun x => bnd (asDK x) fun _ => bnd (mi ρ) fun y => bnd (mf ρ) fun u => mGet2 x y u) := fun U σ H ρ Q Qd E w he h k =>
  ho U σ H ρ _ _ E w he h fun d v H1 h1 e1 j1 r1 => by
    have w1 := w.step e1 j1
    -- the dict is told when all is asked
    have isd : ∀ ks ds, d = .dK ks ds → ∃ a kvs, v = .ref a ∧ H1 a = some (.dK kvs) := fun ks ds e => by
      subst e
      obtain ⟨a, kvs, rfl, ⟨ha, _, _⟩, _⟩ := rep_dict_inv r1
      exact ⟨a, kvs, rfl, ha⟩
    cases d with
    | dK ks ds =>
      obtain ⟨a, kvs0, rfl, ha0⟩ := isd ks ds rfl
      refine ⟨a, rfl, .inl ⟨kvs0, .inl ha0⟩, hi U σ H1 ρ _ _ E w1 he h1 fun d2 v2 H2 h2 e2 j2 r2 => hf U σ H2 ρ _ _ E (w1.step e2 j2) he h2 fun d3 v3 H3 h3 e3 j3 r3 => ?_⟩
      obtain ⟨a', kvs, ea, ⟨ha, na, rfl⟩, r⟩ := rep_dict_inv ((r1.ext e2 w.gu).ext e3 w.gu)
      cases ea
      have h3 : (match keyD d2 with | some k => Qd ((getP ((kvs.map (·.1)).zip ds) k).getD d3) | none => False) := h3
      cases hk : keyD d2 with
      | none => rw [hk] at h3; exact h3.elim
      | some key =>
        simp only [hk] at h3
        have g := getV_rel (k := key) r
        rw [key_rep hk r2]
        refine ⟨_, DGet.k ha, ?_⟩
        cases hg : getP ((kvs.map (·.1)).zip ds) key with
        | none =>
          rw [hg] at g h3
          rw [g]
          exact k _ _ H3 h3 ((e1.trans e2).trans e3) j3 r3
        | some dv =>
          rw [hg] at g h3
          obtain ⟨v, hv, rv⟩ := g
          rw [hv]
          exact k _ _ H3 h3 ((e1.trans e2).trans e3) j3 rv
    | _ => exact h1.elim
theorem de_dget2 (hr : Room k' X.A) (ho : DE X z o to mo) (hi : DE X z e ti mi) (hf : DE X z f tf mf) (m : M2 X o "get" apos e f cpos) : DE X z (.Call (.Attribute o "get" apos) [e, f] [] cpos) (tDGet2 to ti tf) (fun ρ => bnd (mo ρ) fun x => bnd (asDK x) fun _ => bnd (mi ρ) fun y => bnd (mf ρ) fun u => mGet2 x y u) := ⟨pe_dget2 (hu_of hr) ho.pe hi.pe hf.pe m, tm_dget2 ho.tm hi.tm hf.tm⟩
/-! ### three names by a tuple -/
variable {c : Expr} {tc : TE} {mc : DEnv → M D} {fl : List Bool} {tr : TA} {mr : DEnv → M (List D)} {px py pw pt : Pos} {kt k2 : Nat} {pt2 : Pos}
theorem three_small : 3 ≤ sizeLine := by rw [sizeLine_eq]; decide
theorem tms_tup30 {i j l : Nat} (ha : TMr z fl tr mr) (hO : RowOk O fl [i, j, l]) : TMs0 z O (tAsg (tTup tr) (gTup z.K 3 (gCons (gName i) (gCons (gName j) (gCons (gName l) gNil))))) (fun κ E ρ => mr (hide O ρ) (fun ds => κ.nx (setAll [i, j, l] ds ρ)) E) := fun oa σ H ρ Dn κ E s hE ko hm => by
  refine ha _ σ H _ _ _ E s.vis hE hm fun ds vs As H' q e jj hA nd hr => ?_
  have hlen := (rowRep_length hr).1
  rw [rowOk_len hO] at hlen
  match vs, hlen, hr with
  | [u, v, w], _, hr =>
    refine ⟨three_small, fun p hp => ⟨p, [u, v, w], rfl, .inl (.inl upd_same), rfl, u, [v, w], rfl, v, [w], rfl, w, [], rfl, rfl, ?_⟩⟩
    have old : ∀ b o, H' b = some o → upd H' p (.tup [u, v, w]) b = some o := fun b o hb => by rw [upd_ne (ne_of_none hb hp)]; exact hb
    have e' : Ext z.g.G H (upd H' p (.tup [u, v, w])) := e.trans (Ext.new hp)
    have j' : z.g.J (upd H' p (.tup [u, v, w])) := z.g.new jj hp
    have s1 : SO (z.with As) O oa σ (upd H' p (.tup [u, v, w])) ρ := s.with e' j' fun a h => ⟨(hA a h).1, by
      cases q : H' a with
      | none => exact absurd q (hA a h).2
      | some o => rw [old a o q]; simp⟩
    have hr' := hr.mono (U' := fun b => Uo z O oa ρ b ∨ b ∈ As) (fun b o hb n => ⟨old b o hb, n⟩) fun b o _ hb => old b o hb
    rw [show (fun b => Uo z O oa ρ b ∨ b ∈ As) = Uo (z.with As) O oa ρ from funext fun b => propext (uo_with b).symm] at hr'
    obtain ⟨oa', s2⟩ := SO.setRow s.ok (s.step e' j').d0 fl [i, j, l] As ds [u, v, w] oa σ ρ s1 nd (fun a h => ⟨fun q => s.d0 a q (hA a h).1, by
      cases q : z.H0 a with
      | none => rfl
      | some o =>
        have := s.ext a o q fun g => z.g.dom H a s.j g (hA a h).1
        rw [(hA a h).1] at this
        cases this⟩) hO hr'
    exact ko.nx oa' _ _ _ s2 q
theorem ds_tup3 (i j l : Nat) (hc : X.calm = true) (hK : X.K = z.K) (hN : X.N.Nodup) (ha : DRow X z fl [a, b, c] tr mr) (hO : RowOk O fl [i, j, l] := by simp [RowOk]) (hi : X.N[i]? = some x := by rfl) (hj : X.N[j]? = some y := by rfl) (hl : X.N[l]? = some w := by rfl)
    (hx : Loc X.env.scope x := by first | exact .inl rfl | exact .inr rfl) (hy : Loc X.env.scope y := by first | exact .inl rfl | exact .inr rfl) (hw : Loc X.env.scope w := by first | exact .inl rfl | exact .inr rfl)
    (hfx : X.fn x = true ∨ X.env.scope.names.lookup x = some .local := by first | exact .inl rfl | exact .inr rfl) (hfy : X.fn y = true ∨ X.env.scope.names.lookup y = some .local := by first | exact .inl rfl | exact .inr rfl) (hfw : X.fn w = true ∨ X.env.scope.names.lookup w = some .local := by first | exact .inl rfl | exact .inr rfl)
    (hs : swapsWithSole [.Tuple [.Name x px, .Name y py, .Name w pw] kt pt] (.Tuple [a, b, c] k2 pt2) pos.line X.env = pure false := by rfl) (hsw : swappedStores [.Tuple [.Name x px, .Name y py, .Name w pw] kt pt] (.Tuple [a, b, c] k2 pt2) X.env = pure none := by rfl)
    (h1 : (assignEach [.Tuple [.Name x px, .Name y py, .Name w pw] kt pt] X.env).map (·.2) = [assign (.Tuple [.Name x px, .Name y py, .Name w pw] kt pt) X.env] := by rfl)
    (hs1 : (assignEach [.Name x px, .Name y py, .Name w pw] X.env).map (·.2) = assign (.Name x px) X.env :: (assignEach [.Name y py, .Name w pw] X.env).map (·.2) := by rfl)
    (hs2 : (assignEach [.Name y py, .Name w pw] X.env).map (·.2) = assign (.Name y py) X.env :: (assignEach [.Name w pw] X.env).map (·.2) := by rfl)
    (hs3 : (assignEach [.Name w pw] X.env).map (·.2) = assign (.Name w pw) X.env :: (assignEach [] X.env).map (·.2) := by rfl)
    (hn : (assignEach [.Name x px, .Name y py, .Name w pw] X.env).length = 3 := by rfl) (hst : (assignEach [.Name x px, .Name y py, .Name w pw] X.env).findIdx? (·.1) = none := by rfl) :
    DS X z O (.Assign [.Tuple [.Name x px, .Name y py, .Name w pw] kt pt] (.Tuple [a, b, c] k2 pt2) pos) (tAsg (tTup tr) (gTup z.K 3 (gCons (gName i) (gCons (gName j) (gCons (gName l) gNil))))) (fun κ E ρ => mr (hide O ρ) (fun ds => κ.nx (setAll [i, j, l] ds ρ)) E) :=
  ⟨ps_asg (pe_tup ha.pe) (by rw [← hK]; exact pg_tup hc (pgs_cons (pg_name hN hi hx hfx) (pgs_cons (pg_name hN hj hy hfy) (pgs_cons (pg_name hN hl hw hfw) pgs_nil hs3) hs2) hs1) hn hst) hs hsw h1, tms_of fun kp => tms_tup30 (ha.tm.keep kp) hO⟩
/-! ### a store into an own dict beside a name -/
theorem tms_putPair0 {i j : Nat} (ha : TMe z ta ma) (hb : TMe z tb mb) (hk : TMe z ti mi) (hj : j ∈ O) (hi : i ∉ O) : TMs0 z O (tAsg (tTup (tCons ta (tCons tb tNil))) (gTup z.K 2 (gCons (gSub (tVar j) ti rSetD) (gCons (gName i) gNil)))) (fun κ E ρ => ma (hide O ρ) (fun d1 => mb (hide O ρ) (fun d2 => mOwnK j ρ fun kvs => mi (hide O ρ) (fun q => match keyD q with
    | some k => kvs.length < sizeLine ∧ κ.nx ((ρ.set j (some (dictD (putP kvs k d1)))).set i (some d2))
    | none => False) E) E) E) := fun oa σ H ρ Dn κ E s hE ko hm =>
  ha _ σ H _ _ _ E s.vis hE hm fun d1 v1 H1 h1 e1 j1 r1 => hb _ σ H1 _ _ _ E (s.step e1 j1).vis hE h1 fun d2 v2 H2 h2 e2 j2 r2 => by
    have s2 := (s.step e1 j1).step e2 j2
    refine ⟨two_small, fun p hp => ⟨p, [v1, v2], rfl, .inl (.inl upd_same), rfl, v1, [v2], rfl, ?_⟩⟩
    have s3 := s2.step (Ext.new (o := .tup [v1, v2]) hp) (z.g.new j2 hp)
    obtain ⟨ks, ds, hρ, h2⟩ := mOwnK_inv h2
    obtain ⟨_, kvs0, hσ, _, _, _⟩ := s3.ownK hj hρ
    refine ⟨_, hσ, hk _ σ _ _ _ _ E s3.vis hE h2 fun d3 v3 H3 h3 e3 j3 r3 => ?_⟩
    have s4 := s3.step e3 j3
    cases q : keyD d3 with
    | none => simp only [q] at h3
    | some key =>
      simp only [q] at h3
      have ex : Ext z.g.G H1 H3 := (e2.trans (Ext.new hp)).trans e3
      obtain ⟨kvs, f3, f4, f5, s5⟩ := s4.putKey (k := key) hj hρ (r1.ext ex s.gu)
      rw [key_rep q r3]
      refine ⟨oa j, _, rfl, DPut.k f4 (by rw [f5]; exact h3.1), v2, [], rfl, rfl, ?_⟩
      refine ko.nx oa _ _ _ (s5.set hi ?_) h3.2
      rw [Uo_put hj hρ]
      have r2' := r2.ext ((Ext.new (o := .tup [v1, v2]) hp).trans e3) s.gu
      have inU : Uo z O oa ρ (oa j) := .inr ⟨j, hj, ⟨_, hρ⟩, rfl⟩
      exact Rep.mono' (fun b o hb n => ⟨by rw [upd_ne fun q => n (by rw [q]; exact inU)]; exact hb, n⟩) _ _ r2'
theorem ds_putPair (j i : Nat) (hr : Room k' X.A) (hc : X.calm = true) (hK : X.K = z.K) (hNd : X.N.Nodup) (ha : DE X z a ta ma) (hb : DE X z b tb mb) (hk : DE X z e ti mi) (hj : j ∈ O := by decide) (hi : i ∉ O := by decide) (hNj : X.N[j]? = some x := by rfl) (hNi : X.N[i]? = some y := by rfl)
    (hv : Vis X.env.scope x := by first | exact Or.inl rfl | exact Or.inr (Or.inl rfl) | exact Or.inr (Or.inr rfl)) (hd : (x == ("__debug__" : Str)) = false := by decide) (hcd : (x == ("__classdict__" : Str)) = false := by decide)
    (hy : Loc X.env.scope y := by first | exact .inl rfl | exact .inr rfl) (hfy : X.fn y = true ∨ X.env.scope.names.lookup y = some .local := by first | exact .inl rfl | exact .inr rfl)
    (hst0 : ∀ v, assign (.Subscript (.Name x ppos) e pos') X.env v = (do
      let ov ← holding [v] (eval (.Name x ppos) X.env)
      let iv ← holding [v, ov] (eval e X.env)
      standAt pos'
      holding [v, ov, iv] (setItem ov iv v)
      release [v, ov, iv] []) := by intro _; rfl)
    (hs : swapsWithSole [.Tuple [.Subscript (.Name x ppos) e pos', .Name y py] kt pt] (.Tuple [a, b] k2 pt2) pos.line X.env = pure false := by rfl) (hsw : swappedStores [.Tuple [.Subscript (.Name x ppos) e pos', .Name y py] kt pt] (.Tuple [a, b] k2 pt2) X.env = pure none := by rfl)
    (h1 : (assignEach [.Tuple [.Subscript (.Name x ppos) e pos', .Name y py] kt pt] X.env).map (·.2) = [assign (.Tuple [.Subscript (.Name x ppos) e pos', .Name y py] kt pt) X.env] := by rfl)
    (hs1 : (assignEach [.Subscript (.Name x ppos) e pos', .Name y py] X.env).map (·.2) = assign (.Subscript (.Name x ppos) e pos') X.env :: (assignEach [.Name y py] X.env).map (·.2) := by rfl)
    (hs2 : (assignEach [.Name y py] X.env).map (·.2) = assign (.Name y py) X.env :: (assignEach [] X.env).map (·.2) := by rfl)
    (hn : (assignEach [.Subscript (.Name x ppos) e pos', .Name y py] X.env).length = 2 := by rfl) (hst : (assignEach [.Subscript (.Name x ppos) e pos', .Name y py] X.env).findIdx? (·.1) = none := by rfl)
    (hp1 : starEach [a, b] X.env = (false, eval a X.env) :: starEach [b] X.env := by rfl) (hp2 : starEach [b] X.env = (false, eval b X.env) :: starEach [] X.env := by rfl) :
    DS X z O (.Assign [.Tuple [.Subscript (.Name x ppos) e pos', .Name y py] kt pt] (.Tuple [a, b] k2 pt2) pos) (tAsg (tTup (tCons ta (tCons tb tNil))) (gTup z.K 2 (gCons (gSub (tVar j) ti rSetD) (gCons (gName i) gNil)))) (fun κ E ρ => ma (hide O ρ) (fun d1 => mb (hide O ρ) (fun d2 => mOwnK j ρ fun kvs => mi (hide O ρ) (fun q => match keyD q with
      | some k => kvs.length < sizeLine ∧ κ.nx ((ρ.set j (some (dictD (putP kvs k d1)))).set i (some d2))
      | none => False) E) E) E) :=
  ⟨ps_asg (pe_tup (pa_cons ha.pe (pa_cons hb.pe pa_nil hp2) hp1)) (by rw [← hK]; exact pg_tup hc (pgs_cons (pg_sub (pv j hNj hv hd hcd) hk.pe (set_dict (hu_of hr)) hst0) (pgs_cons (pg_name hNd hNi hy hfy) pgs_nil hs2) hs1) hn hst) hs hsw h1, tms_of fun kp => tms_putPair0 (ha.tm.keep kp) (hb.tm.keep kp) (hk.tm.keep kp) hj hi⟩
end
end DL

set_option exponentiation.threshold 100
namespace T1
open PySem PySem.Spec PyProof.Rows L2 DL LamX NdefX
def top (i : Nat) : Stmt := PySem.Challenge.pw_claimpurse_k04_whole_losses.main.body.getD i (.Pass ⟨0, 0, 0, 0⟩)
/-- where the lambdas' makers have their code objects and tables -/
structure LamA where
  c_wrong_in_people : Addr
  p_wrong_in_people : Addr
  c_wrong_in_claims : Addr
  p_wrong_in_claims : Addr
  c_wrong_in_all : Addr
  p_wrong_in_all : Addr
abbrev lamName (x : Str) : Str := (envOfC x (defScope (.Pass ⟨0, 0, 0, 0⟩)) 0 0 .none).qual ++ "<lambda>"
def LamA.tabs (L : LamA) : List (Addr × Str) := [(L.p_wrong_in_people, lamName "wrong_in_people"), (L.p_wrong_in_claims, lamName "wrong_in_claims"), (L.p_wrong_in_all, lamName "wrong_in_all")]
structure Cons where
  Purse : Addr
  f_Purse_init : Addr
  AWARDS : Addr
  L : LamA
  Wl : Addr → Prop
def Cons.at (C : Cons) (Wl : Addr → Prop) : Cons := { C with Wl := Wl }
structure GOk (K : PySem.W.Frag) (C : Cons) (g : GG) : Prop where
  t : ∀ H, g.J H → Tabs C.L.tabs H
  gp : ∀ p ∈ C.L.tabs, g.G p.1
  j : ∀ p ∈ C.L.tabs, ∀ H H1, g.J H → ExtP p.1 H H1 → Tabs C.L.tabs H1 → g.J H1
  x : ∀ H a φ, g.J H → g.G a → H a ≠ some (.ext φ)
  w : WellJ g C.Wl
structure Txt (P : Program) (w : World) (K : PySem.W.Frag) (mg : Str → Option Value) (base : Heap) (C : Cons) : Prop where
  cs : CSF K [C.Purse]
  c_Purse : mg "Purse" = some (.ref C.Purse)
  cl_Purse : Cls K C.Purse
  a_all_told : ∀ D ∈ [C.Purse], Cls K D ∧ NoAttr K D "all_told"
  f_gcd : mg "gcd" = some (.builtin "math.gcd")
  n_abs : mg "abs" = none
  n_all : mg "all" = none
  n_bool : mg "bool" = none
  n_divmod : mg "divmod" = none
  n_enumerate : mg "enumerate" = none
  n_int : mg "int" = none
  n_isinstance : mg "isinstance" = none
  n_len : mg "len" = none
  n_list : mg "list" = none
  n_max : mg "max" = none
  n_min : mg "min" = none
  n_range : mg "range" = none
  n_sorted : mg "sorted" = none
  n_str : mg "str" = none
  n_sum : mg "sum" = none
  n_tuple : mg "tuple" = none
  n_zip : mg "zip" = none
  g_LETTERS : GK K mg "LETTERS" (.str LET)
  g_MOST_CLAIM : GK K mg "MOST_CLAIM" (.int 99)
  g_MOST_LETTERS : GK K mg "MOST_LETTERS" (.int 8)
  g_MOST_PEOPLE : GK K mg "MOST_PEOPLE" (.int 6)
  g_NOTHING : GK K mg "NOTHING" (rD 0)
  g_WORDS : GK K mg "WORDS" (.tup wordsD)
  F_lowest : ∃ f fd, Fun K "lowest" "lowest" (top 24) f fd ∧ mg "lowest" = some (.ref f)
  F_plus : ∃ f fd, Fun K "plus" "plus" (top 26) f fd ∧ mg "plus" = some (.ref f)
  F_minus : ∃ f fd, Fun K "minus" "minus" (top 27) f fd ∧ mg "minus" = some (.ref f)
  F_is_less : ∃ f fd, Fun K "is_less" "is_less" (top 28) f fd ∧ mg "is_less" = some (.ref f)
  F_as_fraction : ∃ f fd, Fun K "as_fraction" "as_fraction" (top 30) f fd ∧ mg "as_fraction" = some (.ref f)
  F_total : ∃ f fd, Fun K "total" "total" (top 29) f fd ∧ mg "total" = some (.ref f)
  F_is_whole : ∃ f fd, Fun K "is_whole" "is_whole" (top 12) f fd ∧ mg "is_whole" = some (.ref f)
  F_is_between : ∃ f fd, Fun K "is_between" "is_between" (top 13) f fd ∧ mg "is_between" = some (.ref f)
  F_is_up_to : ∃ f fd, Fun K "is_up_to" "is_up_to" (top 14) f fd ∧ mg "is_up_to" = some (.ref f)
  F_is_word : ∃ f fd, Fun K "is_word" "is_word" (top 15) f fd ∧ mg "is_word" = some (.ref f)
  F_is_name : ∃ f fd, Fun K "is_name" "is_name" (top 16) f fd ∧ mg "is_name" = some (.ref f)
  F_are_below : ∃ f fd, Fun K "are_below" "are_below" (top 21) f fd ∧ mg "are_below" = some (.ref f)
  F_is_tuple_of : ∃ f fd, Fun K "is_tuple_of" "is_tuple_of" (top 17) f fd ∧ mg "is_tuple_of" = some (.ref f)
  F_wrong_in : ∃ f fd, Fun K "wrong_in" "wrong_in" (top 19) f fd ∧ mg "wrong_in" = some (.ref f)
  F_wrong_in_all : ∃ f fd, Fun K "wrong_in_all" "wrong_in_all" (top 20) f fd ∧ mg "wrong_in_all" = some (.ref f)
  F_wrong_in_people : ∃ f fd, Fun K "wrong_in_people" "wrong_in_people" (top 34) f fd ∧ mg "wrong_in_people" = some (.ref f)
  F_wrong_in_claims : ∃ f fd, Fun K "wrong_in_claims" "wrong_in_claims" (top 35) f fd ∧ mg "wrong_in_claims" = some (.ref f)
  F_check_number : ∃ f fd, Fun K "check_number" "check_number" (top 41) f fd ∧ mg "check_number" = some (.ref f)
  F_check_purse : ∃ f fd, Fun K "check_purse" "check_purse" (top 43) f fd ∧ mg "check_purse" = some (.ref f)
  F_claims_of : ∃ f fd, Fun K "claims_of" "claims_of" (top 36) f fd ∧ mg "claims_of" = some (.ref f)
  F__law_divisor : ∃ f fd, Fun K "_law_divisor" "_law_divisor" (top 55) f fd ∧ mg "_law_divisor" = some (.ref f)
  F__law_frac : ∃ f fd, Fun K "_law_frac" "_law_frac" (top 56) f fd ∧ mg "_law_frac" = some (.ref f)
  F__law_add : ∃ f fd, Fun K "_law_add" "_law_add" (top 57) f fd ∧ mg "_law_add" = some (.ref f)
  F__law_times : ∃ f fd, Fun K "_law_times" "_law_times" (top 58) f fd ∧ mg "_law_times" = some (.ref f)
  F__law_less : ∃ f fd, Fun K "_law_less" "_law_less" (top 59) f fd ∧ mg "_law_less" = some (.ref f)
  F__law_by : ∃ f fd, Fun K "_law_by" "_law_by" (top 60) f fd ∧ mg "_law_by" = some (.ref f)
  F__law_below : ∃ f fd, Fun K "_law_below" "_law_below" (top 61) f fd ∧ mg "_law_below" = some (.ref f)
  F__law_minus : ∃ f fd, Fun K "_law_minus" "_law_minus" (top 62) f fd ∧ mg "_law_minus" = some (.ref f)
  F__law_sum : ∃ f fd, Fun K "_law_sum" "_law_sum" (top 63) f fd ∧ mg "_law_sum" = some (.ref f)
  F__law_draw : ∃ f fd, Fun K "_law_draw" "_law_draw" (top 48) f fd ∧ mg "_law_draw" = some (.ref f)
  F__law_of : ∃ f fd, Fun K "_law_of" "_law_of" (top 49) f fd ∧ mg "_law_of" = some (.ref f)
  F__law_words : ∃ f fd, Fun K "_law_words" "_law_words" (top 52) f fd ∧ mg "_law_words" = some (.ref f)
  F__law_own : ∃ f fd, Fun K "_law_own" "_law_own" (top 53) f fd ∧ mg "_law_own" = some (.ref f)
  F__law_names : ∃ f fd, Fun K "_law_names" "_law_names" (top 54) f fd ∧ mg "_law_names" = some (.ref f)
  F__law_even : ∃ f fd, Fun K "_law_even" "_law_even" (top 66) f fd ∧ mg "_law_even" = some (.ref f)
  F_is_pair : ∃ f fd, Fun K "is_pair" "is_pair" (top 18) f fd ∧ mg "is_pair" = some (.ref f)
  F_is_fraction : ∃ f fd, Fun K "is_fraction" "is_fraction" (top 25) f fd ∧ mg "is_fraction" = some (.ref f)
  F_is_award : ∃ f fd, Fun K "is_award" "is_award" (top 37) f fd ∧ mg "is_award" = some (.ref f)
  F_wrong_in_awards : ∃ f fd, Fun K "wrong_in_awards" "wrong_in_awards" (top 38) f fd ∧ mg "wrong_in_awards" = some (.ref f)
  F_losses_by : ∃ f fd, Fun K "losses_by" "losses_by" (top 39) f fd ∧ mg "losses_by" = some (.ref f)
  F_check_awards : ∃ f fd, Fun K "check_awards" "check_awards" (top 44) f fd ∧ mg "check_awards" = some (.ref f)
  F_losses_of : ∃ f fd, Fun K "losses_of" "losses_of" (top 45) f fd ∧ mg "losses_of" = some (.ref f)
  F__law_purse : ∃ f fd, Fun K "_law_purse" "_law_purse" (top 64) f fd ∧ mg "_law_purse" = some (.ref f)
  F__law_made : ∃ f fd, Fun K "_law_made" "_law_made" (top 65) f fd ∧ mg "_law_made" = some (.ref f)
  F__law_dealt : ∃ f fd, Fun K "_law_dealt" "_law_dealt" (top 68) f fd ∧ mg "_law_dealt" = some (.ref f)
  F__law_awards : ∃ f fd, Fun K "_law_awards" "_law_awards" (top 69) f fd ∧ mg "_law_awards" = some (.ref f)
  F__law_shuffled : ∃ f fd, Fun K "_law_shuffled" "_law_shuffled" (top 50) f fd ∧ mg "_law_shuffled" = some (.ref f)
  F__law_other_awards : ∃ f fd, Fun K "_law_other_awards" "_law_other_awards" (top 70) f fd ∧ mg "_law_other_awards" = some (.ref f)
  F__law_same : ∃ f fd, Fun K "_law_same" "_law_same" (top 51) f fd ∧ mg "_law_same" = some (.ref f)
  F__law_well : ∃ f fd, Fun K "_law_well" "_law_well" (top 47) f fd ∧ mg "_law_well" = some (.ref f)
  F__law_right : ∃ f fd, Fun K "_law_right" "_law_right" (top 71) f fd ∧ mg "_law_right" = some (.ref f)
  F_Purse_init : ∃ fd, Fun K "__init__" "Purse.__init__" (inClass (top 42) 0) C.f_Purse_init fd
  M_Purse : Mk K C.Purse C.f_Purse_init
  P_Purse_people : ∃ p f fd, PropOf K C.Purse "people" p f ∧ Fun K "people" "Purse.people" (inClass (top 42) 1) f fd
  P_Purse_claims : ∃ p f fd, PropOf K C.Purse "claims" p f ∧ Fun K "claims" "Purse.claims" (inClass (top 42) 2) f fd
  P_Purse_money : ∃ p f fd, PropOf K C.Purse "money" p f ∧ Fun K "money" "Purse.money" (inClass (top 42) 3) f fd
  tb_wrong_in_people : TabB base mg C.L.c_wrong_in_people C.L.p_wrong_in_people
  cd_wrong_in_people : ∀ {f fd}, mg "wrong_in_people" = some (.ref f) → Fun K "wrong_in_people" "wrong_in_people" (top 34) f fd → fd.code = .ref C.L.c_wrong_in_people
  hu_wrong_in_people : ∀ p ∈ C.L.tabs, p.1 = C.L.p_wrong_in_people → p.2 = lamName "wrong_in_people"
  tb_wrong_in_claims : TabB base mg C.L.c_wrong_in_claims C.L.p_wrong_in_claims
  cd_wrong_in_claims : ∀ {f fd}, mg "wrong_in_claims" = some (.ref f) → Fun K "wrong_in_claims" "wrong_in_claims" (top 35) f fd → fd.code = .ref C.L.c_wrong_in_claims
  hu_wrong_in_claims : ∀ p ∈ C.L.tabs, p.1 = C.L.p_wrong_in_claims → p.2 = lamName "wrong_in_claims"
  tb_wrong_in_all : TabB base mg C.L.c_wrong_in_all C.L.p_wrong_in_all
  cd_wrong_in_all : ∀ {f fd}, mg "wrong_in_all" = some (.ref f) → Fun K "wrong_in_all" "wrong_in_all" (top 20) f fd → fd.code = .ref C.L.c_wrong_in_all
  hu_wrong_in_all : ∀ p ∈ C.L.tabs, p.1 = C.L.p_wrong_in_all → p.2 = lamName "wrong_in_all"
section
variable {P : Program} {w : World} {K : PySem.W.Frag} {mg : Str → Option Value} {base : Heap} {C : Cons}
theorem Txt.hm_wrong_in_people (T : Txt P w K mg base C) : (C.L.p_wrong_in_people, lamName "wrong_in_people") ∈ C.L.tabs := by simp [LamA.tabs]
theorem Txt.lj_wrong_in_people (T : Txt P w K mg base C) {g : GG} (hg : GOk K C g) : LamJ g C.L.tabs C.L.p_wrong_in_people := ⟨hg.t, hg.gp _ T.hm_wrong_in_people, fun H H1 => hg.j _ T.hm_wrong_in_people H H1, hg.x⟩
theorem Txt.hm_wrong_in_claims (T : Txt P w K mg base C) : (C.L.p_wrong_in_claims, lamName "wrong_in_claims") ∈ C.L.tabs := by simp [LamA.tabs]
theorem Txt.lj_wrong_in_claims (T : Txt P w K mg base C) {g : GG} (hg : GOk K C g) : LamJ g C.L.tabs C.L.p_wrong_in_claims := ⟨hg.t, hg.gp _ T.hm_wrong_in_claims, fun H H1 => hg.j _ T.hm_wrong_in_claims H H1, hg.x⟩
theorem Txt.hm_wrong_in_all (T : Txt P w K mg base C) : (C.L.p_wrong_in_all, lamName "wrong_in_all") ∈ C.L.tabs := by simp [LamA.tabs]
theorem Txt.lj_wrong_in_all (T : Txt P w K mg base C) {g : GG} (hg : GOk K C g) : LamJ g C.L.tabs C.L.p_wrong_in_all := ⟨hg.t, hg.gp _ T.hm_wrong_in_all, fun H H1 => hg.j _ T.hm_wrong_in_all H H1, hg.x⟩
def lawWordsS : List Str := ["all", "award", "book", "case", "claim", "class", "deal", "even", "game", "halves", "in", "losses", "none", "of", "open", "orders", "out", "pay", "people", "purse", "quit", "rank", "rule", "shares", "strike", "undo", "yes"]
def lawOwnS : List Str := ["even", "halves", "losses", "orders", "shares"]
theorem wordsAll : (wordsS.all fun u => decide (u ∈ lawWordsS) || decide (u ∈ lawOwnS)) = true := by decide +kernel
abbrev s_lowest : Stmt := top 24
theorem sc_lowest : FnScope ["one", "two", "common"] ["one", "two"] (defScope s_lowest) := ⟨rfl, rfl, rfl, by decide +kernel, rfl, by decide +kernel, by decide +kernel⟩
theorem okf_lowest (T : Txt P w K mg base C) (g : GG) (hg : GOk K C g) {f : Addr} {fd : FuncData} (F : Fun K "lowest" "lowest" (top 24) f fd) : FnOk P w K mg base (L2.CX P w) 1 f fd ["one", "two"] (spOf K g 2 sp_lowest) := by
  refine fun_okD F sc_lowest rfl [] (by decide) (fun cdv A outer s H E U Ed hr => ⟨_, (dss_cons (ds_set (i := 2) sc_lowest.nd (de_if (dt_cmp opGt rmOrd (dv 1) de_int) (de_cbf cr_gcd rmGcd T.f_gcd (da_cons (dv 0) (da_cons (dv 1) da_nil))) (de_un un_neg rmNeg (de_cbf cr_gcd rmGcd T.f_gcd (da_cons (dv 0) (da_cons (dv 1) da_nil))))))
      (dss_one (ds_ret (de_tup (da_cons (de_op opDiv rmDiv (dv 0) (dv 2)) (da_cons (de_op opDiv rmDiv (dv 1) (dv 2)) da_nil))))))⟩) ?_
  intro ds Q E hl h
  obtain ⟨a, b, rfl, hb, hs, hq⟩ := h
  have hc : DivOk a (cdiv a b) := divOk_of (l := 8000) (cdiv_ne hb) (Nat.lt_of_le_of_lt (cdiv_le hb) hs) (by decide)
  have hd : DivOk b (cdiv a b) := hc
  rw [← rD_of hb] at hq
  simp only [mSeq, bnd, gv, DL.ret, hide, startD, asB, List.foldr_nil, List.foldr_cons, List.map_nil, List.map_cons, List.length_cons, List.length_nil, List.nil_append, List.cons_append, List.getD_cons_zero, List.getD_cons_succ, List.set_cons_zero, List.set_cons_succ, List.replicate_succ, List.replicate_zero, Nat.reduceAdd, Nat.reduceSub, m1, m2, mOrd, mGcd, mLcmD, mNeg, mDiv, mI2, mJ2, mAdd, mSub, mMul, mMulD, mMod, mIx, mTup, mLst, mCall, mLen, mEq, mNe, if_true, if_false, Bool.false_eq_true, reduceIte, ite_ap, at20, at21, at30, at31, at32, true_and, dec_true, mNext, mgName, mgTup, mgCons, mgNil, asEnum, asI, mSl, wipeD, setAll, startC]
  by_cases h0 : 0 < b
  · rw [if_pos h0]
    have e : cdiv a b = ((Nat.gcd a.natAbs b.natAbs : Nat) : Int) := if_pos h0
    rw [e] at hc hd hq
    exact ⟨hc, hd, two_le, hq⟩
  · rw [if_neg h0]
    have e : cdiv a b = -((Nat.gcd a.natAbs b.natAbs : Nat) : Int) := if_neg h0
    rw [e] at hc hd hq
    exact ⟨hc, hd, two_le, hq⟩
theorem ok_lowest (T : Txt P w K mg base C) (g : GG) (hg : GOk K C g) : GF P w K mg base g "lowest" 2 1 sp_lowest := by
  obtain ⟨f, fd, F, hm⟩ := T.F_lowest
  exact gf_of F hm (F.binds (ps := ["one", "two"]) fun _ _ _ _ _ _ us hl => match us, hl with | [_, _], _ => rfl) (okf_lowest T g hg F)
abbrev s_plus : Stmt := top 26
theorem sc_plus : FnScope ["one", "two"] ["one", "two"] (defScope s_plus) := ⟨rfl, rfl, rfl, by decide +kernel, rfl, by decide +kernel, by decide +kernel⟩
theorem okf_plus (T : Txt P w K mg base C) (g : GG) (hg : GOk K C g) {f : Addr} {fd : FuncData} (F : Fun K "plus" "plus" (top 26) f fd) : FnOk P w K mg base (L2.CX P w) 2 f fd ["one", "two"] (spOf K g 2 sp_plus) := by
  have G_lowest := ok_lowest (base := base) T g hg
  refine fun_okD F sc_plus rfl [] (by decide) (fun cdv A outer s H E U Ed hr => ⟨_, (dss_one (ds_ret (de_call G_lowest hr (by omega) bTakes rfl (da_cons (de_op opAdd rmAdd (de_op opMul rmMul (de_ix rfl (dv 0) de_int) (de_ix rfl (dv 1) de_int)) (de_op opMul rmMul (de_ix rfl (dv 1) de_int) (de_ix rfl (dv 0) de_int))) (da_cons (de_op opMul rmMul (de_ix rfl (dv 0) de_int) (de_ix rfl (dv 1) de_int)) da_nil)))))⟩) ?_
  intro ds Q E hl h
  obtain ⟨p, q, rfl, hp, hq, hc, k⟩ := h
  simp only [mSeq, bnd, gv, DL.ret, hide, startD, asB, List.foldr_nil, List.foldr_cons, List.map_nil, List.map_cons, List.length_cons, List.length_nil, List.nil_append, List.cons_append, List.getD_cons_zero, List.getD_cons_succ, List.set_cons_zero, List.set_cons_succ, List.replicate_succ, List.replicate_zero, Nat.reduceAdd, Nat.reduceSub, m1, m2, mOrd, mGcd, mLcmD, mNeg, mDiv, mI2, mJ2, mAdd, mSub, mMul, mMulD, mMod, mIx, mTup, mLst, mCall, mLen, mEq, mNe, if_true, if_false, Bool.false_eq_true, reduceIte, ite_ap, at20, at21, at30, at31, at32, true_and, dec_true, mNext, mgName, mgTup, mgCons, mgNil, asEnum, asI, mSl, wipeD, setAll, startC]
  exact ⟨mulOk_of (k := 2000) (l := 2000) (by first | exact hp.1 | exact hq.1 | exact bd_dn hp | exact bd_dn hq) (by first | exact hp.1 | exact hq.1 | exact bd_dn hp | exact bd_dn hq) (by decide), mulOk_of (k := 2000) (l := 2000) (by first | exact hp.1 | exact hq.1 | exact bd_dn hp | exact bd_dn hq) (by first | exact hp.1 | exact hq.1 | exact bd_dn hp | exact bd_dn hq) (by decide), mulOk_of (k := 2000) (l := 2000) (by first | exact hp.1 | exact hq.1 | exact bd_dn hp | exact bd_dn hq) (by first | exact hp.1 | exact hq.1 | exact bd_dn hp | exact bd_dn hq) (by decide), _, _, rfl, Int.mul_ne_zero (den_ne p) (den_ne q), Nat.lt_of_lt_of_le (natAbs_mul_lt (bd_dn hp) (bd_dn hq)) (Nat.pow_le_pow_right (by decide) (by decide)), by simpa only [add_div] using k⟩
theorem ok_plus (T : Txt P w K mg base C) (g : GG) (hg : GOk K C g) : GF P w K mg base g "plus" 2 2 sp_plus := by
  obtain ⟨f, fd, F, hm⟩ := T.F_plus
  exact gf_of F hm (F.binds (ps := ["one", "two"]) fun _ _ _ _ _ _ us hl => match us, hl with | [_, _], _ => rfl) (okf_plus T g hg F)
abbrev s_minus : Stmt := top 27
theorem sc_minus : FnScope ["one", "two"] ["one", "two"] (defScope s_minus) := ⟨rfl, rfl, rfl, by decide +kernel, rfl, by decide +kernel, by decide +kernel⟩
theorem okf_minus (T : Txt P w K mg base C) (g : GG) (hg : GOk K C g) {f : Addr} {fd : FuncData} (F : Fun K "minus" "minus" (top 27) f fd) : FnOk P w K mg base (L2.CX P w) 2 f fd ["one", "two"] (spOf K g 2 sp_minus) := by
  have G_lowest := ok_lowest (base := base) T g hg
  refine fun_okD F sc_minus rfl [] (by decide) (fun cdv A outer s H E U Ed hr => ⟨_, (dss_one (ds_ret (de_call G_lowest hr (by omega) bTakes rfl (da_cons (de_op op_sub rmSub (de_op opMul rmMul (de_ix rfl (dv 0) de_int) (de_ix rfl (dv 1) de_int)) (de_op opMul rmMul (de_ix rfl (dv 1) de_int) (de_ix rfl (dv 0) de_int))) (da_cons (de_op opMul rmMul (de_ix rfl (dv 0) de_int) (de_ix rfl (dv 1) de_int)) da_nil)))))⟩) ?_
  intro ds Q E hl h
  obtain ⟨p, q, rfl, hp, hq, hc, k⟩ := h
  simp only [mSeq, bnd, gv, DL.ret, hide, startD, asB, List.foldr_nil, List.foldr_cons, List.map_nil, List.map_cons, List.length_cons, List.length_nil, List.nil_append, List.cons_append, List.getD_cons_zero, List.getD_cons_succ, List.set_cons_zero, List.set_cons_succ, List.replicate_succ, List.replicate_zero, Nat.reduceAdd, Nat.reduceSub, m1, m2, mOrd, mGcd, mLcmD, mNeg, mDiv, mI2, mJ2, mAdd, mSub, mMul, mMulD, mMod, mIx, mTup, mLst, mCall, mLen, mEq, mNe, if_true, if_false, Bool.false_eq_true, reduceIte, ite_ap, at20, at21, at30, at31, at32, true_and, dec_true, mNext, mgName, mgTup, mgCons, mgNil, asEnum, asI, mSl, wipeD, setAll, startC]
  exact ⟨mulOk_of (k := 2000) (l := 2000) (by first | exact hp.1 | exact hq.1 | exact bd_dn hp | exact bd_dn hq) (by first | exact hp.1 | exact hq.1 | exact bd_dn hp | exact bd_dn hq) (by decide), mulOk_of (k := 2000) (l := 2000) (by first | exact hp.1 | exact hq.1 | exact bd_dn hp | exact bd_dn hq) (by first | exact hp.1 | exact hq.1 | exact bd_dn hp | exact bd_dn hq) (by decide), mulOk_of (k := 2000) (l := 2000) (by first | exact hp.1 | exact hq.1 | exact bd_dn hp | exact bd_dn hq) (by first | exact hp.1 | exact hq.1 | exact bd_dn hp | exact bd_dn hq) (by decide), _, _, rfl, Int.mul_ne_zero (den_ne p) (den_ne q), Nat.lt_of_lt_of_le (natAbs_mul_lt (bd_dn hp) (bd_dn hq)) (Nat.pow_le_pow_right (by decide) (by decide)), by simpa only [sub_div] using k⟩
theorem ok_minus (T : Txt P w K mg base C) (g : GG) (hg : GOk K C g) : GF P w K mg base g "minus" 2 2 sp_minus := by
  obtain ⟨f, fd, F, hm⟩ := T.F_minus
  exact gf_of F hm (F.binds (ps := ["one", "two"]) fun _ _ _ _ _ _ us hl => match us, hl with | [_, _], _ => rfl) (okf_minus T g hg F)
abbrev s_is_less : Stmt := top 28
theorem sc_is_less : FnScope ["one", "two"] ["one", "two"] (defScope s_is_less) := ⟨rfl, rfl, rfl, by decide +kernel, rfl, by decide +kernel, by decide +kernel⟩
theorem okf_is_less (T : Txt P w K mg base C) (g : GG) (hg : GOk K C g) {f : Addr} {fd : FuncData} (F : Fun K "is_less" "is_less" (top 28) f fd) : FnOk P w K mg base (L2.CX P w) 1 f fd ["one", "two"] (spOf K g 2 sp_is_less) := by
  refine fun_okD F sc_is_less rfl [] (by decide) (fun cdv A outer s H E U Ed hr => ⟨_, (dss_one (ds_ret (de_cmp opLt rmOrd (de_op opMul rmMul (de_ix rfl (dv 0) de_int) (de_ix rfl (dv 1) de_int)) (de_op opMul rmMul (de_ix rfl (dv 1) de_int) (de_ix rfl (dv 0) de_int)))))⟩) ?_
  intro ds Q E hl h
  obtain ⟨p, q, rfl, hp, hq, hc, k⟩ := h
  simp only [mSeq, bnd, gv, DL.ret, hide, startD, asB, List.foldr_nil, List.foldr_cons, List.map_nil, List.map_cons, List.length_cons, List.length_nil, List.nil_append, List.cons_append, List.getD_cons_zero, List.getD_cons_succ, List.set_cons_zero, List.set_cons_succ, List.replicate_succ, List.replicate_zero, Nat.reduceAdd, Nat.reduceSub, m1, m2, mOrd, mGcd, mLcmD, mNeg, mDiv, mI2, mJ2, mAdd, mSub, mMul, mMulD, mMod, mIx, mTup, mLst, mCall, mLen, mEq, mNe, if_true, if_false, Bool.false_eq_true, reduceIte, ite_ap, at20, at21, at30, at31, at32, true_and, dec_true, mNext, mgName, mgTup, mgCons, mgNil, asEnum, asI, mSl, wipeD, setAll, startC]
  exact ⟨mulOk_of (k := 2000) (l := 2000) (by first | exact hp.1 | exact hq.1 | exact bd_dn hp | exact bd_dn hq) (by first | exact hp.1 | exact hq.1 | exact bd_dn hp | exact bd_dn hq) (by decide), mulOk_of (k := 2000) (l := 2000) (by first | exact hp.1 | exact hq.1 | exact bd_dn hp | exact bd_dn hq) (by first | exact hp.1 | exact hq.1 | exact bd_dn hp | exact bd_dn hq) (by decide), by simpa only [lt_dec] using k⟩
theorem ok_is_less (T : Txt P w K mg base C) (g : GG) (hg : GOk K C g) : GF P w K mg base g "is_less" 2 1 sp_is_less := by
  obtain ⟨f, fd, F, hm⟩ := T.F_is_less
  exact gf_of F hm (F.binds (ps := ["one", "two"]) fun _ _ _ _ _ _ us hl => match us, hl with | [_, _], _ => rfl) (okf_is_less T g hg F)
abbrev s_as_fraction : Stmt := top 30
theorem sc_as_fraction : FnScope ["number"] ["number"] (defScope s_as_fraction) := ⟨rfl, rfl, rfl, by decide +kernel, rfl, by decide +kernel, by decide +kernel⟩
theorem okf_as_fraction (T : Txt P w K mg base C) (g : GG) (hg : GOk K C g) {f : Addr} {fd : FuncData} (F : Fun K "as_fraction" "as_fraction" (top 30) f fd) : FnOk P w K mg base (L2.CX P w) 1 f fd ["number"] (spOf K g 1 sp_as_fraction) := by
  refine fun_okD F sc_as_fraction rfl [] (by decide) (fun cdv A outer s H E U Ed hr => ⟨_, (dss_one (ds_ret (de_tup (da_cons (dv 0) (da_cons de_int da_nil)))))⟩) ?_
  intro ds Q E hl h
  obtain ⟨i, rfl, k⟩ := h
  simp only [mSeq, bnd, gv, DL.ret, hide, startD, asB, List.foldr_nil, List.foldr_cons, List.map_nil, List.map_cons, List.length_cons, List.length_nil, List.nil_append, List.cons_append, List.getD_cons_zero, List.getD_cons_succ, List.set_cons_zero, List.set_cons_succ, List.replicate_succ, List.replicate_zero, Nat.reduceAdd, Nat.reduceSub, m1, m2, mOrd, mGcd, mLcmD, mNeg, mDiv, mI2, mJ2, mAdd, mSub, mMul, mMulD, mMod, mIx, mTup, mLst, mCall, mLen, mEq, mNe, if_true, if_false, Bool.false_eq_true, reduceIte, ite_ap, at20, at21, at30, at31, at32, true_and, dec_true, mNext, mgName, mgTup, mgCons, mgNil, asEnum, asI, mSl, wipeD, setAll, startC]
  exact ⟨two_le, k⟩
theorem ok_as_fraction (T : Txt P w K mg base C) (g : GG) (hg : GOk K C g) : GF P w K mg base g "as_fraction" 1 1 sp_as_fraction := by
  obtain ⟨f, fd, F, hm⟩ := T.F_as_fraction
  exact gf_of F hm (F.binds (ps := ["number"]) fun _ _ _ _ _ _ us hl => match us, hl with | [_], _ => rfl) (okf_as_fraction T g hg F)
abbrev s_total : Stmt := top 29
theorem sc_total : FnScope ["some", "found", "each"] ["some"] (defScope s_total) := ⟨rfl, rfl, rfl, by decide +kernel, rfl, by decide +kernel, by decide +kernel⟩
theorem okf_total (T : Txt P w K mg base C) (g : GG) (hg : GOk K C g) {f : Addr} {fd : FuncData} (F : Fun K "total" "total" (top 29) f fd) : FnOk P w K mg base (L2.CX P w) 3 f fd ["some"] (spOf K g 1 sp_total) := by
  have G_plus := ok_plus (base := base) T g hg
  refine fun_okD F sc_total rfl [] (by decide) (fun cdv A outer s H E U Ed hr => ⟨_, (dss_cons (ds_set (i := 1) sc_total.nd (de_globE T.g_NOTHING rfl rfl))
      (dss_cons (ds_for bPass rfl (di_any rfl (dv 0)) (dg_name 2 sc_total.nd) (dss_one (ds_set (i := 1) sc_total.nd (de_call G_plus hr (by omega) bTakes rfl (da_cons (dv 1) (da_cons (dv 2) da_nil))))) (fun _ => rfl))
      (dss_one (ds_ret (dv 1)))))⟩) ?_
  intro ds Q E hl h
  obtain ⟨d, qs, rfl, hi, hb, hn, k⟩ := h
  simp only [mSeq, bnd, gv, DL.ret, hide, startD, asB, List.foldr_nil, List.foldr_cons, List.map_nil, List.map_cons, List.length_cons, List.length_nil, List.nil_append, List.cons_append, List.getD_cons_zero, List.getD_cons_succ, List.set_cons_zero, List.set_cons_succ, List.replicate_succ, List.replicate_zero, Nat.reduceAdd, Nat.reduceSub, m1, m2, mOrd, mGcd, mLcmD, mNeg, mDiv, mI2, mJ2, mAdd, mSub, mMul, mMulD, mMod, mIx, mTup, mLst, mCall, mLen, mEq, mNe, if_true, if_false, Bool.false_eq_true, reduceIte, ite_ap, at20, at21, at30, at31, at32, true_and, dec_true, mNext, mgName, mgTup, mgCons, mgNil, asEnum, asI, mSl, wipeD, setAll, startC]
  rw [asItems_seq hi]
  refine forW_ind (fun n ρ => ∃ o, ρ = [some d, some (rD (qs.take n).sum), o]) _ 0 _ ⟨none, by simp⟩ (fun i e ρ κ hie hI hk => ?_) (fun ρ hI => ?_)
  · obtain ⟨o, rfl⟩ := hI
    rw [List.getElem?_map] at hie
    cases eq : qs[i]? with
    | none => rw [eq] at hie; cases hie
    | some q =>
      rw [eq] at hie
      cases hie
      simp only [mSeq, bnd, gv, DL.ret, hide, startD, asB, List.foldr_nil, List.foldr_cons, List.map_nil, List.map_cons, List.length_cons, List.length_nil, List.nil_append, List.cons_append, List.getD_cons_zero, List.getD_cons_succ, List.set_cons_zero, List.set_cons_succ, List.replicate_succ, List.replicate_zero, Nat.reduceAdd, Nat.reduceSub, m1, m2, mOrd, mGcd, mLcmD, mNeg, mDiv, mI2, mJ2, mAdd, mSub, mMul, mMulD, mMod, mIx, mTup, mLst, mCall, mLen, mEq, mNe, if_true, if_false, Bool.false_eq_true, reduceIte, ite_ap, at20, at21, at30, at31, at32, true_and, dec_true, mNext, mgName, mgTup, mgCons, mgNil, asEnum, asI, mSl, wipeD, setAll, startC]
      have hq := hb q (List.mem_of_getElem? eq)
      have hi2 := (List.getElem?_eq_some_iff.mp eq).1
      refine ⟨_, q, rfl, (Bd.sum (fun x hx => hb x (List.mem_of_mem_take hx))).mono ?_, hq.mono (by decide), trivial, hk _ ⟨some (rD q), ?_⟩⟩
      · have := List.length_take_le (0 + i) qs
        omega
      · rw [show 0 + i + 1 = i + 1 by omega, sum_take_succ' eq, Nat.zero_add]
        all_goals rfl
  · obtain ⟨o, rfl⟩ := hI
    simp only [mSeq, bnd, gv, DL.ret, hide, startD, asB, List.foldr_nil, List.foldr_cons, List.map_nil, List.map_cons, List.length_cons, List.length_nil, List.nil_append, List.cons_append, List.getD_cons_zero, List.getD_cons_succ, List.set_cons_zero, List.set_cons_succ, List.replicate_succ, List.replicate_zero, Nat.reduceAdd, Nat.reduceSub, m1, m2, mOrd, mGcd, mLcmD, mNeg, mDiv, mI2, mJ2, mAdd, mSub, mMul, mMulD, mMod, mIx, mTup, mLst, mCall, mLen, mEq, mNe, if_true, if_false, Bool.false_eq_true, reduceIte, ite_ap, at20, at21, at30, at31, at32, true_and, dec_true, mNext, mgName, mgTup, mgCons, mgNil, asEnum, asI, mSl, wipeD, setAll, startC]
    rw [List.length_map, Nat.zero_add, List.take_length]
    exact k
theorem ok_total (T : Txt P w K mg base C) (g : GG) (hg : GOk K C g) : GF P w K mg base g "total" 1 3 sp_total := by
  obtain ⟨f, fd, F, hm⟩ := T.F_total
  exact gf_of F hm (F.binds (ps := ["some"]) fun _ _ _ _ _ _ us hl => match us, hl with | [_], _ => rfl) (okf_total T g hg F)
abbrev s_is_whole : Stmt := top 12
theorem sc_is_whole : FnScope ["value"] ["value"] (defScope s_is_whole) := ⟨rfl, rfl, rfl, by decide +kernel, rfl, by decide +kernel, by decide +kernel⟩
theorem okf_is_whole (T : Txt P w K mg base C) (g : GG) (hg : GOk K C g) {f : Addr} {fd : FuncData} (F : Fun K "is_whole" "is_whole" (top 12) f fd) : FnOk P w K mg base (L2.CX P w) 1 f fd ["value"] (spOf K g 1 sp_is_whole) := by
  refine fun_okD F sc_is_whole rfl [] (by decide) (fun cdv A outer s H E U Ed hr => ⟨_, (dss_one (ds_ret (de_and (de_isi T.cs rfl T.n_isinstance (da_cons (dv 0) (da_cons (de_bltn T.n_int rfl) da_nil))) (de_one (de_not (de_isi T.cs rfl T.n_isinstance (da_cons (dv 0) (da_cons (de_bltn T.n_bool rfl) da_nil))))))))⟩) ?_
  intro ds Q E hl h
  obtain ⟨i, rfl, k⟩ := h
  simp only [mSeq, bnd, gv, DL.ret, hide, startD, asB, List.foldr_nil, List.foldr_cons, List.map_nil, List.map_cons, List.length_cons, List.length_nil, List.nil_append, List.cons_append, List.getD_cons_zero, List.getD_cons_succ, List.set_cons_zero, List.set_cons_succ, List.replicate_succ, List.replicate_zero, Nat.reduceAdd, Nat.reduceSub, m1, m2, mOrd, mGcd, mLcmD, mNeg, mDiv, mI2, mJ2, mAdd, mSub, mMul, mMulD, mMod, mIx, mTup, mLst, mCall, mLen, mEq, mNe, if_true, if_false, Bool.false_eq_true, reduceIte, ite_ap, at20, at21, at30, at31, at32, true_and, dec_true, mNext, mgName, mgTup, mgCons, mgNil, asEnum, asI, mSl, wipeD, setAll, startC, mIsi, tyD]
  exact ⟨by decide, by decide, k⟩
theorem ok_is_whole (T : Txt P w K mg base C) (g : GG) (hg : GOk K C g) : GF P w K mg base g "is_whole" 1 1 sp_is_whole := by
  obtain ⟨f, fd, F, hm⟩ := T.F_is_whole
  exact gf_of F hm (F.binds (ps := ["value"]) fun _ _ _ _ _ _ us hl => match us, hl with | [_], _ => rfl) (okf_is_whole T g hg F)
abbrev s_is_between : Stmt := top 13
theorem sc_is_between : FnScope ["value", "least", "most"] ["value", "least", "most"] (defScope s_is_between) := ⟨rfl, rfl, rfl, by decide +kernel, rfl, by decide +kernel, by decide +kernel⟩
theorem okf_is_between (T : Txt P w K mg base C) (g : GG) (hg : GOk K C g) {f : Addr} {fd : FuncData} (F : Fun K "is_between" "is_between" (top 13) f fd) : FnOk P w K mg base (L2.CX P w) 2 f fd ["value", "least", "most"] (spOf K g 3 sp_is_between) := by
  have G_is_whole := ok_is_whole (base := base) T g hg
  refine fun_okD F sc_is_between rfl [] (by decide) (fun cdv A outer s H E U Ed hr => ⟨_, (dss_one (ds_ret (de_and (de_call G_is_whole hr (by omega) bTakes rfl (da_cons (dv 0) da_nil)) (de_one (de_chain opLe rmOrd opLe rmOrd (dv 1) (dv 0) (dv 2))))))⟩) ?_
  intro ds Q E hl h
  obtain ⟨i, a, b, rfl, k⟩ := h
  simp only [mSeq, bnd, gv, DL.ret, hide, startD, asB, List.foldr_nil, List.foldr_cons, List.map_nil, List.map_cons, List.length_cons, List.length_nil, List.nil_append, List.cons_append, List.getD_cons_zero, List.getD_cons_succ, List.set_cons_zero, List.set_cons_succ, List.replicate_succ, List.replicate_zero, Nat.reduceAdd, Nat.reduceSub, m1, m2, mOrd, mGcd, mLcmD, mNeg, mDiv, mI2, mJ2, mAdd, mSub, mMul, mMulD, mMod, mIx, mTup, mLst, mCall, mLen, mEq, mNe, if_true, if_false, Bool.false_eq_true, reduceIte, ite_ap, at20, at21, at30, at31, at32, true_and, dec_true, mNext, mgName, mgTup, mgCons, mgNil, asEnum, asI, mSl, wipeD, setAll, startC]
  refine ⟨i, rfl, ?_⟩
  simp only [mSeq, bnd, gv, DL.ret, hide, startD, asB, List.foldr_nil, List.foldr_cons, List.map_nil, List.map_cons, List.length_cons, List.length_nil, List.nil_append, List.cons_append, List.getD_cons_zero, List.getD_cons_succ, List.set_cons_zero, List.set_cons_succ, List.replicate_succ, List.replicate_zero, Nat.reduceAdd, Nat.reduceSub, m1, m2, mOrd, mGcd, mLcmD, mNeg, mDiv, mI2, mJ2, mAdd, mSub, mMul, mMulD, mMod, mIx, mTup, mLst, mCall, mLen, mEq, mNe, if_true, if_false, Bool.false_eq_true, reduceIte, ite_ap, at20, at21, at30, at31, at32, true_and, dec_true, mNext, mgName, mgTup, mgCons, mgNil, asEnum, asI, mSl, wipeD, setAll, startC]
  by_cases h1 : a ≤ i
  · simp only [h1, true_and, if_true] at k ⊢
    exact k
  · simp only [h1, false_and, decide_false, if_false] at k ⊢
    exact k
theorem ok_is_between (T : Txt P w K mg base C) (g : GG) (hg : GOk K C g) : GF P w K mg base g "is_between" 3 2 sp_is_between := by
  obtain ⟨f, fd, F, hm⟩ := T.F_is_between
  exact gf_of F hm (F.binds (ps := ["value", "least", "most"]) fun _ _ _ _ _ _ us hl => match us, hl with | [_, _, _], _ => rfl) (okf_is_between T g hg F)
abbrev s_is_up_to : Stmt := top 14
theorem sc_is_up_to : FnScope ["value", "most"] ["value", "most"] (defScope s_is_up_to) := ⟨rfl, rfl, rfl, by decide +kernel, rfl, by decide +kernel, by decide +kernel⟩
theorem okf_is_up_to (T : Txt P w K mg base C) (g : GG) (hg : GOk K C g) {f : Addr} {fd : FuncData} (F : Fun K "is_up_to" "is_up_to" (top 14) f fd) : FnOk P w K mg base (L2.CX P w) 3 f fd ["value", "most"] (spOf K g 2 sp_is_up_to) := by
  have G_is_between := ok_is_between (base := base) T g hg
  refine fun_okD F sc_is_up_to rfl [] (by decide) (fun cdv A outer s H E U Ed hr => ⟨_, (dss_one (ds_ret (de_call G_is_between hr (by omega) bTakes rfl (da_cons (dv 0) (da_cons de_int (da_cons (dv 1) da_nil))))))⟩) ?_
  intro ds Q E hl h
  obtain ⟨i, b, rfl, k⟩ := h
  simp only [mSeq, bnd, gv, DL.ret, hide, startD, asB, List.foldr_nil, List.foldr_cons, List.map_nil, List.map_cons, List.length_cons, List.length_nil, List.nil_append, List.cons_append, List.getD_cons_zero, List.getD_cons_succ, List.set_cons_zero, List.set_cons_succ, List.replicate_succ, List.replicate_zero, Nat.reduceAdd, Nat.reduceSub, m1, m2, mOrd, mGcd, mLcmD, mNeg, mDiv, mI2, mJ2, mAdd, mSub, mMul, mMulD, mMod, mIx, mTup, mLst, mCall, mLen, mEq, mNe, if_true, if_false, Bool.false_eq_true, reduceIte, ite_ap, at20, at21, at30, at31, at32, true_and, dec_true, mNext, mgName, mgTup, mgCons, mgNil, asEnum, asI, mSl, wipeD, setAll, startC]
  exact ⟨i, 0, b, rfl, k⟩
theorem ok_is_up_to (T : Txt P w K mg base C) (g : GG) (hg : GOk K C g) : GF P w K mg base g "is_up_to" 2 3 sp_is_up_to := by
  obtain ⟨f, fd, F, hm⟩ := T.F_is_up_to
  exact gf_of F hm (F.binds (ps := ["value", "most"]) fun _ _ _ _ _ _ us hl => match us, hl with | [_, _], _ => rfl) (okf_is_up_to T g hg F)
abbrev s_is_word : Stmt := top 15
theorem sc_is_word : FnScope ["value", "sign"] ["value"] (defScope s_is_word) := ⟨rfl, rfl, rfl, by decide +kernel, rfl, by decide +kernel, by decide +kernel⟩
theorem okf_is_word (T : Txt P w K mg base C) (g : GG) (hg : GOk K C g) {f : Addr} {fd : FuncData} (F : Fun K "is_word" "is_word" (top 15) f fd) : FnOk P w K mg base (L2.CX P w) 1 f fd ["value"] (spOf K g 1 sp_is_word) := by
  refine fun_okD F sc_is_word rfl [] (by decide) (fun cdv A outer s H E U Ed hr => ⟨_, (dss_one (ds_ret (de_and (de_isi T.cs rfl T.n_isinstance (da_cons (dv 0) (da_cons (de_bltn T.n_str rfl) da_nil))) (de_and (de_cmp (opNe hr) rmNe (dv 0) de_str) (de_one (de_cb (cr_all rfl) rmAll T.n_all rfl (da_cons (DF.de (df_lc rfl sc_is_word.nd (di_any rfl (dv 0)) (own := [("sign", 1)]) (blk_of (N := ["value", "sign"]) (sc := defScope s_is_word) (by decide +kernel)) (fun s H C cl fp => (dge_name 1 sc_is_word.nd)) (fun s H C cl fp => dts_nil) (fun s H C cl fp => (de_cmp opIn rmIn (dv 1) (de_globE T.g_LETTERS rfl rfl))) (fun _ => rfl))) da_nil)))))))⟩) ?_
  intro ds Q E hl h
  obtain ⟨x, rfl, hx, hz, hl, k⟩ := h
  have hne : eqD (.str x) (.str "") = false := word_ne hz
  simp only [mSeq, bnd, gv, DL.ret, hide, startD, asB, List.foldr_nil, List.foldr_cons, List.map_nil, List.map_cons, List.length_cons, List.length_nil, List.nil_append, List.cons_append, List.getD_cons_zero, List.getD_cons_succ, List.set_cons_zero, List.set_cons_succ, List.replicate_succ, List.replicate_zero, Nat.reduceAdd, Nat.reduceSub, m1, m2, mOrd, mGcd, mLcmD, mNeg, mDiv, mI2, mJ2, mAdd, mSub, mMul, mMulD, mMod, mIx, mTup, mLst, mCall, mLen, mEq, mNe, if_true, if_false, Bool.false_eq_true, reduceIte, ite_ap, at20, at21, at30, at31, at32, true_and, dec_true, mNext, mgName, mgTup, mgCons, mgNil, asEnum, asI, mSl, wipeD, setAll, startC, mIsi, tyD, EqOk, hne, wipeD]
  refine ⟨by decide, signs_small hl, lcW_map (f := fun _ => .bl true) _ _ (fun d hd k hk => ?_) ?_⟩
  · obtain ⟨c, hc, rfl⟩ := signs_mem hd
    simp only [mSeq, bnd, gv, DL.ret, hide, startD, asB, List.foldr_nil, List.foldr_cons, List.map_nil, List.map_cons, List.length_cons, List.length_nil, List.nil_append, List.cons_append, List.getD_cons_zero, List.getD_cons_succ, List.set_cons_zero, List.set_cons_succ, List.replicate_succ, List.replicate_zero, Nat.reduceAdd, Nat.reduceSub, m1, m2, mOrd, mGcd, mLcmD, mNeg, mDiv, mI2, mJ2, mAdd, mSub, mMul, mMulD, mMod, mIx, mTup, mLst, mCall, mLen, mEq, mNe, if_true, if_false, Bool.false_eq_true, reduceIte, ite_ap, at20, at21, at30, at31, at32, true_and, dec_true, mNext, mgName, mgTup, mgCons, mgNil, asEnum, asI, mSl, wipeD, setAll, startC, mInB, letter_in (hx c hc), wipeD]
    exact hk
  · simp only [mSeq, bnd, gv, DL.ret, hide, startD, asB, List.foldr_nil, List.foldr_cons, List.map_nil, List.map_cons, List.length_cons, List.length_nil, List.nil_append, List.cons_append, List.getD_cons_zero, List.getD_cons_succ, List.set_cons_zero, List.set_cons_succ, List.replicate_succ, List.replicate_zero, Nat.reduceAdd, Nat.reduceSub, m1, m2, mOrd, mGcd, mLcmD, mNeg, mDiv, mI2, mJ2, mAdd, mSub, mMul, mMulD, mMod, mIx, mTup, mLst, mCall, mLen, mEq, mNe, if_true, if_false, Bool.false_eq_true, reduceIte, ite_ap, at20, at21, at30, at31, at32, true_and, dec_true, mNext, mgName, mgTup, mgCons, mgNil, asEnum, asI, mSl, wipeD, setAll, startC]
    rw [List.map_const']
    exact all_true Q E k
theorem ok_is_word (T : Txt P w K mg base C) (g : GG) (hg : GOk K C g) : GF P w K mg base g "is_word" 1 1 sp_is_word := by
  obtain ⟨f, fd, F, hm⟩ := T.F_is_word
  exact gf_of F hm (F.binds (ps := ["value"]) fun _ _ _ _ _ _ us hl => match us, hl with | [_], _ => rfl) (okf_is_word T g hg F)
abbrev s_is_name : Stmt := top 16
theorem sc_is_name : FnScope ["value"] ["value"] (defScope s_is_name) := ⟨rfl, rfl, rfl, by decide +kernel, rfl, by decide +kernel, by decide +kernel⟩
theorem okf_is_name (T : Txt P w K mg base C) (g : GG) (hg : GOk K C g) {f : Addr} {fd : FuncData} (F : Fun K "is_name" "is_name" (top 16) f fd) : FnOk P w K mg base (L2.CX P w) 2 f fd ["value"] (spOf K g 1 sp_is_name) := by
  have G_is_word := ok_is_word (base := base) T g hg
  refine fun_okD F sc_is_name rfl [] (by decide) (fun cdv A outer s H E U Ed hr => ⟨_, (dss_one (ds_ret (de_and (de_call G_is_word hr (by omega) bTakes rfl (da_cons (dv 0) da_nil)) (de_and (de_cmp opLe rmOrd (de_cb crLen rmLen T.n_len rfl (da_cons (dv 0) da_nil)) (de_globE T.g_MOST_LETTERS rfl rfl)) (de_one (de_cmp opNotIn rmIn (dv 0) (de_globE T.g_WORDS rfl rfl)))))))⟩) ?_
  intro ds Q E hl h
  obtain ⟨x, rfl, hx, k⟩ := h
  obtain ⟨h1, h2, h3, h4⟩ := hx
  simp only [mSeq, bnd, gv, DL.ret, hide, startD, asB, List.foldr_nil, List.foldr_cons, List.map_nil, List.map_cons, List.length_cons, List.length_nil, List.nil_append, List.cons_append, List.getD_cons_zero, List.getD_cons_succ, List.set_cons_zero, List.set_cons_succ, List.replicate_succ, List.replicate_zero, Nat.reduceAdd, Nat.reduceSub, m1, m2, mOrd, mGcd, mLcmD, mNeg, mDiv, mI2, mJ2, mAdd, mSub, mMul, mMulD, mMod, mIx, mTup, mLst, mCall, mLen, mEq, mNe, if_true, if_false, Bool.false_eq_true, reduceIte, ite_ap, at20, at21, at30, at31, at32, true_and, dec_true, mNext, mgName, mgTup, mgCons, mgNil, asEnum, asI, mSl, wipeD, setAll, startC, mInB]
  refine ⟨x, rfl, h1, h2, by omega, ?_⟩
  simp only [mSeq, bnd, gv, DL.ret, hide, startD, asB, List.foldr_nil, List.foldr_cons, List.map_nil, List.map_cons, List.length_cons, List.length_nil, List.nil_append, List.cons_append, List.getD_cons_zero, List.getD_cons_succ, List.set_cons_zero, List.set_cons_succ, List.replicate_succ, List.replicate_zero, Nat.reduceAdd, Nat.reduceSub, m1, m2, mOrd, mGcd, mLcmD, mNeg, mDiv, mI2, mJ2, mAdd, mSub, mMul, mMulD, mMod, mIx, mTup, mLst, mCall, mLen, mEq, mNe, if_true, if_false, Bool.false_eq_true, reduceIte, ite_ap, at20, at21, at30, at31, at32, true_and, dec_true, mNext, mgName, mgTup, mgCons, mgNil, asEnum, asI, mSl, wipeD, setAll, startC]
  refine ⟨by rw [sizeLine_eq]; omega, ?_⟩
  rw [if_pos (show (x.length : Int) ≤ 8 by omega)]
  simp only [mSeq, bnd, gv, DL.ret, hide, startD, asB, List.foldr_nil, List.foldr_cons, List.map_nil, List.map_cons, List.length_cons, List.length_nil, List.nil_append, List.cons_append, List.getD_cons_zero, List.getD_cons_succ, List.set_cons_zero, List.set_cons_succ, List.replicate_succ, List.replicate_zero, Nat.reduceAdd, Nat.reduceSub, m1, m2, mOrd, mGcd, mLcmD, mNeg, mDiv, mI2, mJ2, mAdd, mSub, mMul, mMulD, mMod, mIx, mTup, mLst, mCall, mLen, mEq, mNe, if_true, if_false, Bool.false_eq_true, reduceIte, ite_ap, at20, at21, at30, at31, at32, true_and, dec_true, mNext, mgName, mgTup, mgCons, mgNil, asEnum, asI, mSl, wipeD, setAll, startC, h4]
  exact ⟨rfl, by decide +kernel, k⟩
theorem ok_is_name (T : Txt P w K mg base C) (g : GG) (hg : GOk K C g) : GF P w K mg base g "is_name" 1 2 sp_is_name := by
  obtain ⟨f, fd, F, hm⟩ := T.F_is_name
  exact gf_of F hm (F.binds (ps := ["value"]) fun _ _ _ _ _ _ us hl => match us, hl with | [_], _ => rfl) (okf_is_name T g hg F)
abbrev s_are_below : Stmt := top 21
theorem sc_are_below : FnScope ["ahead", "value"] ["ahead", "value"] (defScope s_are_below) := ⟨rfl, rfl, rfl, by decide +kernel, rfl, by decide +kernel, by decide +kernel⟩
theorem okf_are_below (T : Txt P w K mg base C) (g : GG) (hg : GOk K C g) {f : Addr} {fd : FuncData} (F : Fun K "are_below" "are_below" (top 21) f fd) : FnOk P w K mg base (L2.CX P w) 1 f fd ["ahead", "value"] (spOf K g 2 sp_are_below) := by
  refine fun_okD F sc_are_below rfl [] (by decide) (fun cdv A outer s H E U Ed hr => ⟨_, (dss_one (ds_ret (de_or (de_cmp (opEq hr) rmEq (dv 0) (de_tup da_nil)) (de_one (de_cmp opLt rmOrd (de_ix rfl (dv 0) (de_un un_neg rmNeg de_int)) (dv 1))))))⟩) ?_
  intro ds Q E hl h
  obtain ⟨xs, y, rfl, hok, hb, k⟩ := h
  simp only [mSeq, bnd, gv, DL.ret, hide, startD, asB, List.foldr_nil, List.foldr_cons, List.map_nil, List.map_cons, List.length_cons, List.length_nil, List.nil_append, List.cons_append, List.getD_cons_zero, List.getD_cons_succ, List.set_cons_zero, List.set_cons_succ, List.replicate_succ, List.replicate_zero, Nat.reduceAdd, Nat.reduceSub, m1, m2, mOrd, mGcd, mLcmD, mNeg, mDiv, mI2, mJ2, mAdd, mSub, mMul, mMulD, mMod, mIx, mTup, mLst, mCall, mLen, mEq, mNe, if_true, if_false, Bool.false_eq_true, reduceIte, ite_ap, at20, at21, at30, at31, at32, true_and, dec_true, mNext, mgName, mgTup, mgCons, mgNil, asEnum, asI, mSl, wipeD, setAll, startC]
  refine ⟨Nat.zero_le _, strs_eqOk hok, ?_⟩
  rcases hb with rfl | ⟨z, hz, hlt⟩
  · simp only [mSeq, bnd, gv, DL.ret, hide, startD, asB, List.foldr_nil, List.foldr_cons, List.map_nil, List.map_cons, List.length_cons, List.length_nil, List.nil_append, List.cons_append, List.getD_cons_zero, List.getD_cons_succ, List.set_cons_zero, List.set_cons_succ, List.replicate_succ, List.replicate_zero, Nat.reduceAdd, Nat.reduceSub, m1, m2, mOrd, mGcd, mLcmD, mNeg, mDiv, mI2, mJ2, mAdd, mSub, mMul, mMulD, mMod, mIx, mTup, mLst, mCall, mLen, mEq, mNe, if_true, if_false, Bool.false_eq_true, reduceIte, ite_ap, at20, at21, at30, at31, at32, true_and, dec_true, mNext, mgName, mgTup, mgCons, mgNil, asEnum, asI, mSl, wipeD, setAll, startC, eqD, eqDs]
    exact k
  · rw [strs_ne hz]
    simp only [mSeq, bnd, gv, DL.ret, hide, startD, asB, List.foldr_nil, List.foldr_cons, List.map_nil, List.map_cons, List.length_cons, List.length_nil, List.nil_append, List.cons_append, List.getD_cons_zero, List.getD_cons_succ, List.set_cons_zero, List.set_cons_succ, List.replicate_succ, List.replicate_zero, Nat.reduceAdd, Nat.reduceSub, m1, m2, mOrd, mGcd, mLcmD, mNeg, mDiv, mI2, mJ2, mAdd, mSub, mMul, mMulD, mMod, mIx, mTup, mLst, mCall, mLen, mEq, mNe, if_true, if_false, Bool.false_eq_true, reduceIte, ite_ap, at20, at21, at30, at31, at32, true_and, dec_true, mNext, mgName, mgTup, mgCons, mgNil, asEnum, asI, mSl, wipeD, setAll, startC, at_last hz, hlt]
    exact k
theorem ok_are_below (T : Txt P w K mg base C) (g : GG) (hg : GOk K C g) : GF P w K mg base g "are_below" 2 1 sp_are_below := by
  obtain ⟨f, fd, F, hm⟩ := T.F_are_below
  exact gf_of F hm (F.binds (ps := ["ahead", "value"]) fun _ _ _ _ _ _ us hl => match us, hl with | [_, _], _ => rfl) (okf_are_below T g hg F)
abbrev s_is_tuple_of : Stmt := top 17
theorem sc_is_tuple_of : FnScope ["value", "many"] ["value", "many"] (defScope s_is_tuple_of) := ⟨rfl, rfl, rfl, by decide +kernel, rfl, by decide +kernel, by decide +kernel⟩
theorem okf_is_tuple_of (T : Txt P w K mg base C) (g : GG) (hg : GOk K C g) {f : Addr} {fd : FuncData} (F : Fun K "is_tuple_of" "is_tuple_of" (top 17) f fd) : FnOk P w K mg base (L2.CX P w) 1 f fd ["value", "many"] (spOf K g 2 sp_is_tuple_of) := by
  refine fun_okD F sc_is_tuple_of rfl [] (by decide) (fun cdv A outer s H E U Ed hr => ⟨_, (dss_one (ds_ret (de_and (de_isi T.cs rfl T.n_isinstance (da_cons (dv 0) (da_cons (de_bltn T.n_tuple rfl) da_nil))) (de_one (de_cmp (opEq hr) rmEq (de_cb crLen rmLen T.n_len rfl (da_cons (dv 0) da_nil)) (dv 1))))))⟩) ?_
  intro ds Q E hl h
  obtain ⟨xs, m, rfl, k⟩ := h
  simp only [mSeq, bnd, gv, DL.ret, hide, startD, asB, List.foldr_nil, List.foldr_cons, List.map_nil, List.map_cons, List.length_cons, List.length_nil, List.nil_append, List.cons_append, List.getD_cons_zero, List.getD_cons_succ, List.set_cons_zero, List.set_cons_succ, List.replicate_succ, List.replicate_zero, Nat.reduceAdd, Nat.reduceSub, m1, m2, mOrd, mGcd, mLcmD, mNeg, mDiv, mI2, mJ2, mAdd, mSub, mMul, mMulD, mMod, mIx, mTup, mLst, mCall, mLen, mEq, mNe, if_true, if_false, Bool.false_eq_true, reduceIte, ite_ap, at20, at21, at30, at31, at32, true_and, dec_true, mNext, mgName, mgTup, mgCons, mgNil, asEnum, asI, mSl, wipeD, setAll, startC, mIsi, tyD, EqOk, eqD]
  exact ⟨by decide, k⟩
theorem ok_is_tuple_of (T : Txt P w K mg base C) (g : GG) (hg : GOk K C g) : GF P w K mg base g "is_tuple_of" 2 1 sp_is_tuple_of := by
  obtain ⟨f, fd, F, hm⟩ := T.F_is_tuple_of
  exact gf_of F hm (F.binds (ps := ["value", "many"]) fun _ _ _ _ _ _ us hl => match us, hl with | [_, _], _ => rfl) (okf_is_tuple_of T g hg F)
abbrev s_wrong_in : Stmt := top 19
theorem sc_wrong_in : FnScope ["value", "least", "most", "is_right", "index", "each"] ["value", "least", "most", "is_right"] (defScope s_wrong_in) := ⟨rfl, rfl, rfl, by decide +kernel, rfl, by decide +kernel, by decide +kernel⟩
theorem ok_wrong_in (T : Txt P w K mg base C) (g : GG) (hg : GOk K C g) (KL : Nat) : GFL P w K mg base g "wrong_in" 4 (KL + 1) 2 (KL + 0) sp_wrong_in := by
  obtain ⟨f, fd, F, hm⟩ := T.F_wrong_in
  refine gfl_of F hm (F.binds (ps := ["value", "least", "most", "is_right"]) fun _ _ _ _ _ _ us hl => match us, hl with | [_, _, _, _], _ => rfl) sc_wrong_in rfl [] (by decide) (fun fL spL => ⟨_, fun cdv A outer s H E U Ed hr hcd hC => ⟨_, (dss_cons (ds_if (dt_w (dw_or (dt_not (dt_val (de_isi T.cs rfl T.n_isinstance (da_cons (dv 0) (da_cons (de_bltn T.n_tuple rfl) da_nil))))) (dw_or1 (dt_cmp opLt rmOrd (de_cb crLen rmLen T.n_len rfl (da_cons (dv 0) da_nil)) (dv 1))))) (dss_one (ds_ret (de_lst (da_cons de_non da_nil)))) dss_nil)
      (dss_cons (ds_for bPass rfl (di_enum rfl T.n_enumerate (da_cons (dv 0) da_nil)) (dg_tup (n := 2) rfl rfl (dgs_cons 4 sc_wrong_in.nd (dgs_cons 5 sc_wrong_in.nd dgs_nil))) (dss_one (ds_if (dt_w (dw_or (dt_cmp (opEq hr) rmEq (dv 4) (dv 2)) (dw_or1 (dt_not (dt_val (de_clo (i := 3) hC rfl rfl rfl hr (by omega) bTakes (da_cons (de_slice rfl (dv 0) do_none (do_some (dv 4))) (da_cons (dv 5) da_nil)))))))) (dss_one (ds_ret (de_lst (da_cons (dv 4) da_nil)))) dss_nil)) (fun _ => rfl))
      (dss_one (ds_ret (de_lst da_nil)))))⟩, ?_⟩)
  intro ds Q E hl hf h
  obtain ⟨xs, least, most, rfl, h1, h2, hs, k⟩ := h
  simp only [mSeq, bnd, gv, DL.ret, hide, startD, asB, List.foldr_nil, List.foldr_cons, List.map_nil, List.map_cons, List.length_cons, List.length_nil, List.nil_append, List.cons_append, List.getD_cons_zero, List.getD_cons_succ, List.set_cons_zero, List.set_cons_succ, List.replicate_succ, List.replicate_zero, Nat.reduceAdd, Nat.reduceSub, m1, m2, mOrd, mGcd, mLcmD, mNeg, mDiv, mI2, mJ2, mAdd, mSub, mMul, mMulD, mMod, mIx, mTup, mLst, mCall, mLen, mEq, mNe, if_true, if_false, Bool.false_eq_true, reduceIte, ite_ap, at20, at21, at30, at31, at32, true_and, dec_true, mNext, mgName, mgTup, mgCons, mgNil, asEnum, asI, mSl, wipeD, setAll, startC, mIsi, tyD]
  refine ⟨by decide, ?_⟩
  rw [if_neg (by decide), if_neg (by omega)]
  refine forW_ind (fun n ρ => ∃ o1 o2, ρ = [some (.tup xs), some (.int least), some (.int most), some (.obj fL), o1, o2]) _ 0 _ ⟨none, none, rfl⟩ (fun i d ρ κ hie hI hk => ?_) (fun ρ hI => ?_)
  · obtain ⟨o1, o2, rfl⟩ := hI
    have hil : i < xs.length := by
      have := (List.getElem?_eq_some_iff.mp hie).1
      rwa [enumD_length] at this
    have hx := List.getElem?_eq_getElem hil
    rw [enumD_get 0 xs i _ hx] at hie
    cases hie
    have hne : eqD (.int (0 + (i : Int))) (.int most) = false := int_ne (by omega)
    simp only [mSeq, bnd, gv, DL.ret, hide, startD, asB, List.foldr_nil, List.foldr_cons, List.map_nil, List.map_cons, List.length_cons, List.length_nil, List.nil_append, List.cons_append, List.getD_cons_zero, List.getD_cons_succ, List.set_cons_zero, List.set_cons_succ, List.replicate_succ, List.replicate_zero, Nat.reduceAdd, Nat.reduceSub, m1, m2, mOrd, mGcd, mLcmD, mNeg, mDiv, mI2, mJ2, mAdd, mSub, mMul, mMulD, mMod, mIx, mTup, mLst, mCall, mLen, mEq, mNe, if_true, if_false, Bool.false_eq_true, reduceIte, ite_ap, at20, at21, at30, at31, at32, true_and, dec_true, mNext, mgName, mgTup, mgCons, mgNil, asEnum, asI, mSl, wipeD, setAll, startC, EqOk, hne, cut_to (Nat.le_of_lt hil)]
    refine hs i _ hx _ ?_
    simp only [mSeq, bnd, gv, DL.ret, hide, startD, asB, List.foldr_nil, List.foldr_cons, List.map_nil, List.map_cons, List.length_cons, List.length_nil, List.nil_append, List.cons_append, List.getD_cons_zero, List.getD_cons_succ, List.set_cons_zero, List.set_cons_succ, List.replicate_succ, List.replicate_zero, Nat.reduceAdd, Nat.reduceSub, m1, m2, mOrd, mGcd, mLcmD, mNeg, mDiv, mI2, mJ2, mAdd, mSub, mMul, mMulD, mMod, mIx, mTup, mLst, mCall, mLen, mEq, mNe, if_true, if_false, Bool.false_eq_true, reduceIte, ite_ap, at20, at21, at30, at31, at32, true_and, dec_true, mNext, mgName, mgTup, mgCons, mgNil, asEnum, asI, mSl, wipeD, setAll, startC, Bool.not_true]
    exact hk _ ⟨_, _, rfl⟩
  · obtain ⟨o1, o2, rfl⟩ := hI
    simp only [mSeq, bnd, gv, DL.ret, hide, startD, asB, List.foldr_nil, List.foldr_cons, List.map_nil, List.map_cons, List.length_cons, List.length_nil, List.nil_append, List.cons_append, List.getD_cons_zero, List.getD_cons_succ, List.set_cons_zero, List.set_cons_succ, List.replicate_succ, List.replicate_zero, Nat.reduceAdd, Nat.reduceSub, m1, m2, mOrd, mGcd, mLcmD, mNeg, mDiv, mI2, mJ2, mAdd, mSub, mMul, mMulD, mMod, mIx, mTup, mLst, mCall, mLen, mEq, mNe, if_true, if_false, Bool.false_eq_true, reduceIte, ite_ap, at20, at21, at30, at31, at32, true_and, dec_true, mNext, mgName, mgTup, mgCons, mgNil, asEnum, asI, mSl, wipeD, setAll, startC]
    exact ⟨Nat.zero_le _, k⟩
abbrev s_wrong_in_all : Stmt := top 20
theorem sc_wrong_in_all : FnScope ["value", "many", "is_right"] ["value", "many", "is_right"] (defScope s_wrong_in_all) := ⟨rfl, rfl, rfl, by decide +kernel, rfl, by decide +kernel, by decide +kernel⟩
theorem ok_wrong_in_all (T : Txt P w K mg base C) (g : GG) (hg : GOk K C g) (KL : Nat) : GFL P w K mg base g "wrong_in_all" 3 (KL + 3) 1 (KL + 0) sp_wrong_in_all := by
  obtain ⟨f, fd, F, hm⟩ := T.F_wrong_in_all
  have G_is_tuple_of := ok_is_tuple_of (base := base) T g hg
  have G_wrong_in := ok_wrong_in (base := base) T g hg (KL + 1)
  refine gfl_of F hm (F.binds (ps := ["value", "many", "is_right"]) fun _ _ _ _ _ _ us hl => match us, hl with | [_, _, _], _ => rfl) sc_wrong_in_all rfl [] (by decide) (fun fL spL => ⟨_, fun cdv A outer s H E U Ed hr hcd hC => ⟨_, (dss_one (ds_ret (de_if (dt_val (de_call G_is_tuple_of hr (by omega) bTakes rfl (da_cons (dv 0) (da_cons (dv 1) da_nil)))) (de_lam (spL := (fun ds Q E => ∃ a x, ds = [a, x] ∧ spL [x] Q E)) (js := [2]) (caps := [.obj fL]) (kL := KL) G_wrong_in rfl rfl rfl hr (by omega) bTakes hg.x (dl_cons (dv 0) (dl_cons (dv 1) (dl_cons (dv 1) (dl_last (T.lj_wrong_in_all hg) T.tb_wrong_in_all (hcd.symm.trans (T.cd_wrong_in_all hm F)) T.hm_wrong_in_all T.hu_wrong_in_all rfl (fun ok y hy e => ((ndef_free (sc := defScope s_wrong_in_all) (fr := ["is_right"]) (by decide +kernel)) y hy e).elim (fun z => ok.has _ (.inl z)) (fun z => ok.has _ (.inr z))))))) (nscope_by (N := ["ahead", "each", "is_right"]) (ps := ["ahead", "each"]) (fr := ["is_right"]) (by decide +kernel)) rfl (fun _ _ _ _ _ us hl => match us, hl with | [_, _], _ => rfl) (fun ok => Caps.made ok (ndef_free (sc := defScope s_wrong_in_all) (fr := ["is_right"]) (by decide +kernel)) (ndef_fr (sc := defScope s_wrong_in_all) (by decide +kernel)) rfl) (fun _ _ _ => rfl) (by simp [isCap]) (fun f c' A o s' H' E U Ed l hr => ⟨_, (de_clo (i := 2) (hC.later l) rfl rfl rfl hr (by omega) lTakes (da_cons (dv 1) da_nil))⟩) (by
      intro ds Q E hl h
      obtain ⟨a, x, rfl, h⟩ := h
      simp only [mSeq, bnd, gv, DL.ret, hide, startD, asB, List.foldr_nil, List.foldr_cons, List.map_nil, List.map_cons, List.length_cons, List.length_nil, List.nil_append, List.cons_append, List.getD_cons_zero, List.getD_cons_succ, List.set_cons_zero, List.set_cons_succ, List.replicate_succ, List.replicate_zero, Nat.reduceAdd, Nat.reduceSub, m1, m2, mOrd, mGcd, mLcmD, mNeg, mDiv, mI2, mJ2, mAdd, mSub, mMul, mMulD, mMod, mIx, mTup, mLst, mCall, mLen, mEq, mNe, if_true, if_false, Bool.false_eq_true, reduceIte, ite_ap, at20, at21, at30, at31, at32, true_and, dec_true, mNext, mgName, mgTup, mgCons, mgNil, asEnum, asI, mSl, wipeD, setAll, startC]
      exact h)) (de_lst (da_cons de_non da_nil)))))⟩, ?_⟩)
  intro ds Q E hl hf h
  obtain ⟨xs, rfl, hs, k⟩ := h
  simp only [mSeq, bnd, gv, DL.ret, hide, startD, asB, List.foldr_nil, List.foldr_cons, List.map_nil, List.map_cons, List.length_cons, List.length_nil, List.nil_append, List.cons_append, List.getD_cons_zero, List.getD_cons_succ, List.set_cons_zero, List.set_cons_succ, List.replicate_succ, List.replicate_zero, Nat.reduceAdd, Nat.reduceSub, m1, m2, mOrd, mGcd, mLcmD, mNeg, mDiv, mI2, mJ2, mAdd, mSub, mMul, mMulD, mMod, mIx, mTup, mLst, mCall, mLen, mEq, mNe, if_true, if_false, Bool.false_eq_true, reduceIte, ite_ap, at20, at21, at30, at31, at32, true_and, dec_true, mNext, mgName, mgTup, mgCons, mgNil, asEnum, asI, mSl, wipeD, setAll, startC]
  refine ⟨xs, _, rfl, ?_⟩
  simp only [mSeq, bnd, gv, DL.ret, hide, startD, asB, List.foldr_nil, List.foldr_cons, List.map_nil, List.map_cons, List.length_cons, List.length_nil, List.nil_append, List.cons_append, List.getD_cons_zero, List.getD_cons_succ, List.set_cons_zero, List.set_cons_succ, List.replicate_succ, List.replicate_zero, Nat.reduceAdd, Nat.reduceSub, m1, m2, mOrd, mGcd, mLcmD, mNeg, mDiv, mI2, mJ2, mAdd, mSub, mMul, mMulD, mMod, mIx, mTup, mLst, mCall, mLen, mEq, mNe, if_true, if_false, Bool.false_eq_true, reduceIte, ite_ap, at20, at21, at30, at31, at32, true_and, dec_true, mNext, mgName, mgTup, mgCons, mgNil, asEnum, asI, mSl, wipeD, setAll, startC]
  rw [if_pos (by simp)]
  exact fun f => ⟨xs, _, _, rfl, Int.le_refl _, Int.le_refl _, fun i x hx k hk => ⟨_, x, rfl, hs x (List.mem_of_getElem? hx) k hk⟩, k⟩
abbrev s_wrong_in_people : Stmt := top 34
theorem sc_wrong_in_people : FnScope ["value"] ["value"] (defScope s_wrong_in_people) := ⟨rfl, rfl, rfl, by decide +kernel, rfl, by decide +kernel, by decide +kernel⟩
theorem ok_wrong_in_people (T : Txt P w K mg base C) (g : GG) (hg : GOk K C g) : GF P w K mg base g "wrong_in_people" 1 8 sp_wrong_in_people := by
  obtain ⟨f, fd, F, hm⟩ := T.F_wrong_in_people
  have G_wrong_in := ok_wrong_in (base := base) T g hg 6
  have G_are_below := ok_are_below (base := base) T g hg
  have G_is_name := ok_is_name (base := base) T g hg
  refine gf_of F hm (F.binds (ps := ["value"]) fun _ _ _ _ _ _ us hl => match us, hl with | [_], _ => rfl) (fun_okDc F sc_wrong_in_people rfl [] (by decide) (fun cdv A outer s H E U Ed hr hcd => ⟨_, (dss_one (ds_ret (de_lam (spL := (fun ds Q E => ∃ (xs : List Str) (y : Str), ds = [.tup (xs.map D.str), .str y] ∧ NameOk y ∧ (∀ x ∈ xs, PyData.strOk x = true) ∧ (xs = [] ∨ ∃ z, xs.getLast? = some z ∧ strLt z y = true) ∧ Q (.bl true))) (js := []) (caps := []) (kL := 5) G_wrong_in rfl rfl rfl hr (by decide) bTakes hg.x (dl_cons (dv 0) (dl_cons de_int (dl_cons (de_globE T.g_MOST_PEOPLE rfl rfl) (dl_last (T.lj_wrong_in_people hg) T.tb_wrong_in_people (hcd.symm.trans (T.cd_wrong_in_people hm F)) T.hm_wrong_in_people T.hu_wrong_in_people rfl (fun ok y hy e => ((ndef_free (sc := defScope s_wrong_in_people) (fr := []) (by decide +kernel)) y hy e).elim (fun z => ok.has _ (.inl z)) (fun z => ok.has _ (.inr z))))))) (nscope_by (N := ["ahead", "each"]) (ps := ["ahead", "each"]) (fr := []) (by decide +kernel)) rfl (fun _ _ _ _ _ us hl => match us, hl with | [_, _], _ => rfl) (fun ok => Caps.made ok (ndef_free (sc := defScope s_wrong_in_people) (fr := []) (by decide +kernel)) (ndef_fr (sc := defScope s_wrong_in_people) (by decide +kernel)) rfl) (fun _ _ _ => rfl) (by simp [isCap]) (fun f c' A o s' H' E U Ed l hr => ⟨_, (de_and (de_call G_is_name hr (by decide) lTakes rfl (da_cons (dv 1) da_nil)) (de_one (de_call G_are_below hr (by decide) lTakes rfl (da_cons (dv 0) (da_cons (dv 1) da_nil)))))⟩) (by
      intro ds Q E hl h
      obtain ⟨xs, y, rfl, h1, h2, h3, h⟩ := h
      simp only [mSeq, bnd, gv, DL.ret, hide, startD, asB, List.foldr_nil, List.foldr_cons, List.map_nil, List.map_cons, List.length_cons, List.length_nil, List.nil_append, List.cons_append, List.getD_cons_zero, List.getD_cons_succ, List.set_cons_zero, List.set_cons_succ, List.replicate_succ, List.replicate_zero, Nat.reduceAdd, Nat.reduceSub, m1, m2, mOrd, mGcd, mLcmD, mNeg, mDiv, mI2, mJ2, mAdd, mSub, mMul, mMulD, mMod, mIx, mTup, mLst, mCall, mLen, mEq, mNe, if_true, if_false, Bool.false_eq_true, reduceIte, ite_ap, at20, at21, at30, at31, at32, true_and, dec_true, mNext, mgName, mgTup, mgCons, mgNil, asEnum, asI, mSl, wipeD, setAll, startC]
      refine ⟨y, rfl, h1, ?_⟩
      simp only [mSeq, bnd, gv, DL.ret, hide, startD, asB, List.foldr_nil, List.foldr_cons, List.map_nil, List.map_cons, List.length_cons, List.length_nil, List.nil_append, List.cons_append, List.getD_cons_zero, List.getD_cons_succ, List.set_cons_zero, List.set_cons_succ, List.replicate_succ, List.replicate_zero, Nat.reduceAdd, Nat.reduceSub, m1, m2, mOrd, mGcd, mLcmD, mNeg, mDiv, mI2, mJ2, mAdd, mSub, mMul, mMulD, mMod, mIx, mTup, mLst, mCall, mLen, mEq, mNe, if_true, if_false, Bool.false_eq_true, reduceIte, ite_ap, at20, at21, at30, at31, at32, true_and, dec_true, mNext, mgName, mgTup, mgCons, mgNil, asEnum, asI, mSl, wipeD, setAll, startC]
      exact ⟨xs, y, rfl, h2, h3, h⟩))))⟩) ?_)
  intro ds Q E hl h
  obtain ⟨ns, rfl, hp, k⟩ := h
  simp only [mSeq, bnd, gv, DL.ret, hide, startD, asB, List.foldr_nil, List.foldr_cons, List.map_nil, List.map_cons, List.length_cons, List.length_nil, List.nil_append, List.cons_append, List.getD_cons_zero, List.getD_cons_succ, List.set_cons_zero, List.set_cons_succ, List.replicate_succ, List.replicate_zero, Nat.reduceAdd, Nat.reduceSub, m1, m2, mOrd, mGcd, mLcmD, mNeg, mDiv, mI2, mJ2, mAdd, mSub, mMul, mMulD, mMod, mIx, mTup, mLst, mCall, mLen, mEq, mNe, if_true, if_false, Bool.false_eq_true, reduceIte, ite_ap, at20, at21, at30, at31, at32, true_and, dec_true, mNext, mgName, mgTup, mgCons, mgNil, asEnum, asI, mSl, wipeD, setAll, startC]
  refine fun f => ⟨_, _, _, rfl, ?_, ?_, fun i x hx k hk => ?_, k⟩
  · have := hp.p
    rw [List.length_map]
    omega
  · have := hp.l
    rw [List.length_map]
    omega
  · rw [List.getElem?_map] at hx
    cases e : ns[i]? with
    | none => rw [e] at hx; cases hx
    | some y =>
      rw [e] at hx
      cases hx
      refine ⟨ns.take i, y, by rw [List.map_take], hp.n y (List.mem_of_getElem? e), fun x hx => NameOk.str (hp.n x (List.mem_of_mem_take hx)), by have z := hp.before e; simp only [dec_true] at z; exact z, hk⟩
abbrev s_wrong_in_claims : Stmt := top 35
theorem sc_wrong_in_claims : FnScope ["people", "value"] ["people", "value"] (defScope s_wrong_in_claims) := ⟨rfl, rfl, rfl, by decide +kernel, rfl, by decide +kernel, by decide +kernel⟩
theorem ok_wrong_in_claims (T : Txt P w K mg base C) (g : GG) (hg : GOk K C g) : GF P w K mg base g "wrong_in_claims" 2 10 sp_wrong_in_claims := by
  obtain ⟨f, fd, F, hm⟩ := T.F_wrong_in_claims
  have G_wrong_in_all := ok_wrong_in_all (base := base) T g hg 6
  have G_is_up_to := ok_is_up_to (base := base) T g hg
  refine gf_of F hm (F.binds (ps := ["people", "value"]) fun _ _ _ _ _ _ us hl => match us, hl with | [_, _], _ => rfl) (fun_okDc F sc_wrong_in_claims rfl [] (by decide) (fun cdv A outer s H E U Ed hr hcd => ⟨_, (dss_one (ds_ret (de_lam (spL := (fun ds Q E => ∃ i : Int, ds = [.int i] ∧ 0 ≤ i ∧ i ≤ 99 ∧ Q (.bl true))) (js := []) (caps := []) (kL := 5) G_wrong_in_all rfl rfl rfl hr (by decide) bTakes hg.x (dl_cons (dv 1) (dl_cons (de_cb crLen rmLen T.n_len rfl (da_cons (dv 0) da_nil)) (dl_last (T.lj_wrong_in_claims hg) T.tb_wrong_in_claims (hcd.symm.trans (T.cd_wrong_in_claims hm F)) T.hm_wrong_in_claims T.hu_wrong_in_claims rfl (fun ok y hy e => ((ndef_free (sc := defScope s_wrong_in_claims) (fr := []) (by decide +kernel)) y hy e).elim (fun z => ok.has _ (.inl z)) (fun z => ok.has _ (.inr z)))))) (nscope_by (N := ["each"]) (ps := ["each"]) (fr := []) (by decide +kernel)) rfl (fun _ _ _ _ _ us hl => match us, hl with | [_], _ => rfl) (fun ok => Caps.made ok (ndef_free (sc := defScope s_wrong_in_claims) (fr := []) (by decide +kernel)) (ndef_fr (sc := defScope s_wrong_in_claims) (by decide +kernel)) rfl) (fun _ _ _ => rfl) (by simp [isCap]) (fun f c' A o s' H' E U Ed l hr => ⟨_, (de_call G_is_up_to hr (by decide) lTakes rfl (da_cons (dv 0) (da_cons (de_globE T.g_MOST_CLAIM rfl rfl) da_nil)))⟩) (by
      intro ds Q E hl h
      obtain ⟨i, rfl, h1, h2, h⟩ := h
      simp only [mSeq, bnd, gv, DL.ret, hide, startD, asB, List.foldr_nil, List.foldr_cons, List.map_nil, List.map_cons, List.length_cons, List.length_nil, List.nil_append, List.cons_append, List.getD_cons_zero, List.getD_cons_succ, List.set_cons_zero, List.set_cons_succ, List.replicate_succ, List.replicate_zero, Nat.reduceAdd, Nat.reduceSub, m1, m2, mOrd, mGcd, mLcmD, mNeg, mDiv, mI2, mJ2, mAdd, mSub, mMul, mMulD, mMod, mIx, mTup, mLst, mCall, mLen, mEq, mNe, if_true, if_false, Bool.false_eq_true, reduceIte, ite_ap, at20, at21, at30, at31, at32, true_and, dec_true, mNext, mgName, mgTup, mgCons, mgNil, asEnum, asI, mSl, wipeD, setAll, startC]
      refine ⟨i, 99, rfl, ?_⟩
      rw [decide_eq_true ⟨h1, h2⟩]
      exact h))))⟩) ?_)
  intro ds Q E hl h
  obtain ⟨ps, cs, rfl, hl2, hc, k⟩ := h
  simp only [mSeq, bnd, gv, DL.ret, hide, startD, asB, List.foldr_nil, List.foldr_cons, List.map_nil, List.map_cons, List.length_cons, List.length_nil, List.nil_append, List.cons_append, List.getD_cons_zero, List.getD_cons_succ, List.set_cons_zero, List.set_cons_succ, List.replicate_succ, List.replicate_zero, Nat.reduceAdd, Nat.reduceSub, m1, m2, mOrd, mGcd, mLcmD, mNeg, mDiv, mI2, mJ2, mAdd, mSub, mMul, mMulD, mMod, mIx, mTup, mLst, mCall, mLen, mEq, mNe, if_true, if_false, Bool.false_eq_true, reduceIte, ite_ap, at20, at21, at30, at31, at32, true_and, dec_true, mNext, mgName, mgTup, mgCons, mgNil, asEnum, asI, mSl, wipeD, setAll, startC]
  refine fun f => ⟨cs.map D.int, ?_, fun x hx k hk => ?_, k⟩
  · rw [List.length_map, hl2]
  · obtain ⟨i, hi, rfl⟩ := List.mem_map.mp hx
    exact ⟨i, rfl, (hc i hi).1, (hc i hi).2, hk⟩
abbrev s_check_number : Stmt := top 41
theorem sc_check_number : FnScope ["number", "least", "most"] ["number", "least", "most"] (defScope s_check_number) := ⟨rfl, rfl, rfl, by decide +kernel, rfl, by decide +kernel, by decide +kernel⟩
theorem okf_check_number (T : Txt P w K mg base C) (g : GG) (hg : GOk K C g) {f : Addr} {fd : FuncData} (F : Fun K "check_number" "check_number" (top 41) f fd) : FnOk P w K mg base (L2.CX P w) 3 f fd ["number", "least", "most"] (spOf K g 3 sp_check_number) := by
  have G_is_between := ok_is_between (base := base) T g hg
  refine fun_okD F sc_check_number rfl [] (by decide) (fun cdv A outer s H E U Ed hr => ⟨_, (dss_one (ds_if (dt_not (dt_val (de_call G_is_between hr (by omega) bTakes rfl (da_cons (dv 0) (da_cons (dv 1) (da_cons (dv 2) da_nil)))))) (dss_one ds_never) dss_nil))⟩) ?_
  intro ds Q E hl h
  obtain ⟨n, a, b, rfl, h1, h2, k⟩ := h
  simp only [mSeq, bnd, gv, DL.ret, hide, startD, asB, List.foldr_nil, List.foldr_cons, List.map_nil, List.map_cons, List.length_cons, List.length_nil, List.nil_append, List.cons_append, List.getD_cons_zero, List.getD_cons_succ, List.set_cons_zero, List.set_cons_succ, List.replicate_succ, List.replicate_zero, Nat.reduceAdd, Nat.reduceSub, m1, m2, mOrd, mGcd, mLcmD, mNeg, mDiv, mI2, mJ2, mAdd, mSub, mMul, mMulD, mMod, mIx, mTup, mLst, mCall, mLen, mEq, mNe, if_true, if_false, Bool.false_eq_true, reduceIte, ite_ap, at20, at21, at30, at31, at32, true_and, dec_true, mNext, mgName, mgTup, mgCons, mgNil, asEnum, asI, mSl, wipeD, setAll, startC]
  refine ⟨n, a, b, rfl, ?_⟩
  simp only [mSeq, bnd, gv, DL.ret, hide, startD, asB, List.foldr_nil, List.foldr_cons, List.map_nil, List.map_cons, List.length_cons, List.length_nil, List.nil_append, List.cons_append, List.getD_cons_zero, List.getD_cons_succ, List.set_cons_zero, List.set_cons_succ, List.replicate_succ, List.replicate_zero, Nat.reduceAdd, Nat.reduceSub, m1, m2, mOrd, mGcd, mLcmD, mNeg, mDiv, mI2, mJ2, mAdd, mSub, mMul, mMulD, mMod, mIx, mTup, mLst, mCall, mLen, mEq, mNe, if_true, if_false, Bool.false_eq_true, reduceIte, ite_ap, at20, at21, at30, at31, at32, true_and, dec_true, mNext, mgName, mgTup, mgCons, mgNil, asEnum, asI, mSl, wipeD, setAll, startC, decide_eq_true (show a ≤ n ∧ n ≤ b from ⟨h1, h2⟩), Bool.not_true]
  exact k
theorem ok_check_number (T : Txt P w K mg base C) (g : GG) (hg : GOk K C g) : GF P w K mg base g "check_number" 3 3 sp_check_number := by
  obtain ⟨f, fd, F, hm⟩ := T.F_check_number
  exact gf_of F hm (F.binds (ps := ["number", "least", "most"]) fun _ _ _ _ _ _ us hl => match us, hl with | [_, _, _], _ => rfl) (okf_check_number T g hg F)
abbrev s_check_purse : Stmt := top 43
theorem sc_check_purse : FnScope ["purse"] ["purse"] (defScope s_check_purse) := ⟨rfl, rfl, rfl, by decide +kernel, rfl, by decide +kernel, by decide +kernel⟩
theorem okf_check_purse (T : Txt P w K mg base C) (g : GG) (hg : GOk K C g) {f : Addr} {fd : FuncData} (F : Fun K "check_purse" "check_purse" (top 43) f fd) : FnOk P w K mg base (L2.CX P w) 1 f fd ["purse"] (spOf K g 1 (sp_check_purse C.Purse)) := by
  refine fun_okD F sc_check_purse rfl [] (by decide) (fun cdv A outer s H E U Ed hr => ⟨_, (dss_one (ds_if (dt_not (dt_val (de_isi T.cs rfl T.n_isinstance (da_cons (dv 0) (da_cons (de_cls T.c_Purse) da_nil))))) (dss_one ds_never) dss_nil))⟩) ?_
  intro ds Q E hl h
  obtain ⟨ks, ds, rfl, k⟩ := h
  simp only [mSeq, bnd, gv, DL.ret, hide, startD, asB, List.foldr_nil, List.foldr_cons, List.map_nil, List.map_cons, List.length_cons, List.length_nil, List.nil_append, List.cons_append, List.getD_cons_zero, List.getD_cons_succ, List.set_cons_zero, List.set_cons_succ, List.replicate_succ, List.replicate_zero, Nat.reduceAdd, Nat.reduceSub, m1, m2, mOrd, mGcd, mLcmD, mNeg, mDiv, mI2, mJ2, mAdd, mSub, mMul, mMulD, mMod, mIx, mTup, mLst, mCall, mLen, mEq, mNe, if_true, if_false, Bool.false_eq_true, reduceIte, ite_ap, at20, at21, at30, at31, at32, true_and, dec_true, mNext, mgName, mgTup, mgCons, mgNil, asEnum, asI, mSl, wipeD, setAll, startC, mIsi, tyD, List.mem_singleton, beq_self_eq_true, Bool.not_true]
  exact k
theorem ok_check_purse (T : Txt P w K mg base C) (g : GG) (hg : GOk K C g) : GF P w K mg base g "check_purse" 1 1 (sp_check_purse C.Purse) := by
  obtain ⟨f, fd, F, hm⟩ := T.F_check_purse
  exact gf_of F hm (F.binds (ps := ["purse"]) fun _ _ _ _ _ _ us hl => match us, hl with | [_], _ => rfl) (okf_check_purse T g hg F)
abbrev s_Purse_init : Stmt := inClass (top 42) 0
theorem sc_Purse_init : FnScope ["self", "people", "claims", "money", "index"] ["self", "people", "claims", "money"] (defScope s_Purse_init) := ⟨rfl, rfl, rfl, by decide +kernel, rfl, by decide +kernel, by decide +kernel⟩
theorem mk_Purse (T : Txt P w K mg base C) (g : GG) (hg : GOk K C g) : ∃ fd, FnOk P w K mg base (L2.CX P w) 11 C.f_Purse_init fd ["self", "people", "claims", "money"] (spInit K g C.Purse "all_told" 3 sp_Purse) ∧ Fun K "__init__" "Purse.__init__" s_Purse_init C.f_Purse_init fd := by
  obtain ⟨fd, F⟩ := T.F_Purse_init
  have G_check_number := ok_check_number (base := base) T g hg
  have G_wrong_in_claims := ok_wrong_in_claims (base := base) T g hg
  have G_wrong_in_people := ok_wrong_in_people (base := base) T g hg
  refine ⟨fd, init_okD F sc_Purse_init rfl [] (by decide) (fun cdv A outer s H E U Ed x dx hr hx ng => ⟨_, (dsl_cons (ds_for bPass rfl (di_any rfl (de_call G_wrong_in_people hr (by omega) bTakes rfl (da_cons (dv 1) da_nil))) (dg_name 4 sc_Purse_init.nd) (dss_one ds_never) (fun _ => rfl))
      (dsl_cons (ds_for bPass rfl (di_any rfl (de_call G_wrong_in_claims hr (by omega) bTakes rfl (da_cons (dv 1) (da_cons (dv 2) da_nil)))) (dg_name 4 sc_Purse_init.nd) (dss_one ds_never) (fun _ => rfl))
      (dsl_cons (ds_expr (de_call G_check_number hr (by omega) bTakes rfl (da_cons (dv 3) (da_cons de_int (da_cons (de_cb (crSum rfl) rmInts T.n_sum rfl (da_cons (dv 2) da_nil)) da_nil)))))
      (dsl_last rfl hx ng T.cl_Purse (T.a_all_told _ (List.mem_singleton.mpr rfl)).2 (de_tup (da_cons (dv 1) (da_cons (dv 2) (da_cons (dv 3) da_nil)))) (dv 0)))))⟩) ?_, F⟩
  intro x ds Q E hl h
  obtain ⟨ns, cs, m, rfl, hp, k⟩ := h
  simp only [mSeq, bnd, gv, DL.ret, hide, startD, asB, List.foldr_nil, List.foldr_cons, List.map_nil, List.map_cons, List.length_cons, List.length_nil, List.nil_append, List.cons_append, List.getD_cons_zero, List.getD_cons_succ, List.set_cons_zero, List.set_cons_succ, List.replicate_succ, List.replicate_zero, Nat.reduceAdd, Nat.reduceSub, m1, m2, mOrd, mGcd, mLcmD, mNeg, mDiv, mI2, mJ2, mAdd, mSub, mMul, mMulD, mMod, mIx, mTup, mLst, mCall, mLen, mEq, mNe, if_true, if_false, Bool.false_eq_true, reduceIte, ite_ap, at20, at21, at30, at31, at32, true_and, dec_true, mNext, mgName, mgTup, mgCons, mgNil, asEnum, asI, mSl, wipeD, setAll, startC, asItems, forW]
  refine ⟨ns, rfl, hp.pe, _, cs, rfl, by rw [hp.cl, List.length_map], hp.c, ?_⟩
  simp only [mSeq, bnd, gv, DL.ret, hide, startD, asB, List.foldr_nil, List.foldr_cons, List.map_nil, List.map_cons, List.length_cons, List.length_nil, List.nil_append, List.cons_append, List.getD_cons_zero, List.getD_cons_succ, List.set_cons_zero, List.set_cons_succ, List.replicate_succ, List.replicate_zero, Nat.reduceAdd, Nat.reduceSub, m1, m2, mOrd, mGcd, mLcmD, mNeg, mDiv, mI2, mJ2, mAdd, mSub, mMul, mMulD, mMod, mIx, mTup, mLst, mCall, mLen, mEq, mNe, if_true, if_false, Bool.false_eq_true, reduceIte, ite_ap, at20, at21, at30, at31, at32, true_and, dec_true, mNext, mgName, mgTup, mgCons, mgNil, asEnum, asI, mSl, wipeD, setAll, startC, forW, mInts_tup]
  refine fun s hs => ⟨m, 0, s, rfl, hp.m0, by rw [hs]; exact hp.m1, ?_⟩
  simp only [mSeq, bnd, gv, DL.ret, hide, startD, asB, List.foldr_nil, List.foldr_cons, List.map_nil, List.map_cons, List.length_cons, List.length_nil, List.nil_append, List.cons_append, List.getD_cons_zero, List.getD_cons_succ, List.set_cons_zero, List.set_cons_succ, List.replicate_succ, List.replicate_zero, Nat.reduceAdd, Nat.reduceSub, m1, m2, mOrd, mGcd, mLcmD, mNeg, mDiv, mI2, mJ2, mAdd, mSub, mMul, mMulD, mMod, mIx, mTup, mLst, mCall, mLen, mEq, mNe, if_true, if_false, Bool.false_eq_true, reduceIte, ite_ap, at20, at21, at30, at31, at32, true_and, dec_true, mNext, mgName, mgTup, mgCons, mgNil, asEnum, asI, mSl, wipeD, setAll, startC]
  exact ⟨three_le, k⟩
theorem ok_Purse (T : Txt P w K mg base C) (g : GG) (hg : GOk K C g) : GM P w K mg base g "Purse" C.Purse "all_told" 3 11 ["self", "people", "claims", "money"] sp_Purse := by
  obtain ⟨fd, h, F⟩ := mk_Purse (base := base) T g hg
  exact ⟨_, fd, T.c_Purse, T.M_Purse, h, F.binds (ps := ["self", "people", "claims", "money"]) fun _ _ _ _ _ _ us hl => match us, hl with | [_, _, _, _], _ => rfl⟩
abbrev s_Purse_people : Stmt := inClass (top 42) 1
theorem sc_Purse_people : FnScope ["self"] ["self"] (defScope s_Purse_people) := ⟨rfl, rfl, rfl, by decide +kernel, rfl, by decide +kernel, by decide +kernel⟩
theorem pr_people (T : Txt P w K mg base C) (g : GG) (hg : GOk K C g) : GP P w K mg base g C.Purse "people" 1 (sp_part C.Purse 0) := by
  obtain ⟨p, f, fd, hp, F⟩ := T.P_Purse_people
  refine ⟨p, f, fd, ["self"], hp, fun_okD F sc_Purse_people rfl [] (by decide) (fun cdv A outer s H E U Ed hr => ⟨_, (dss_one (ds_ret (de_ix rfl (de_fld T.a_all_told rfl (dv 0)) de_int)))⟩) ?_, F.binds (ps := ["self"]) fun _ _ _ _ _ _ us hl => match us, hl with | [_], _ => rfl⟩
  intro ds Q E hl h
  obtain ⟨ns, cs, m, rfl, k⟩ := h
  simp only [mSeq, bnd, gv, DL.ret, hide, startD, asB, List.foldr_nil, List.foldr_cons, List.map_nil, List.map_cons, List.length_cons, List.length_nil, List.nil_append, List.cons_append, List.getD_cons_zero, List.getD_cons_succ, List.set_cons_zero, List.set_cons_succ, List.replicate_succ, List.replicate_zero, Nat.reduceAdd, Nat.reduceSub, m1, m2, mOrd, mGcd, mLcmD, mNeg, mDiv, mI2, mJ2, mAdd, mSub, mMul, mMulD, mMod, mIx, mTup, mLst, mCall, mLen, mEq, mNe, if_true, if_false, Bool.false_eq_true, reduceIte, ite_ap, at20, at21, at30, at31, at32, true_and, dec_true, mNext, mgName, mgTup, mgCons, mgNil, asEnum, asI, mSl, wipeD, setAll, startC, mFld, getA, List.mem_singleton]
  exact k
abbrev s_Purse_claims : Stmt := inClass (top 42) 2
theorem sc_Purse_claims : FnScope ["self"] ["self"] (defScope s_Purse_claims) := ⟨rfl, rfl, rfl, by decide +kernel, rfl, by decide +kernel, by decide +kernel⟩
theorem pr_claims (T : Txt P w K mg base C) (g : GG) (hg : GOk K C g) : GP P w K mg base g C.Purse "claims" 1 (sp_part C.Purse 1) := by
  obtain ⟨p, f, fd, hp, F⟩ := T.P_Purse_claims
  refine ⟨p, f, fd, ["self"], hp, fun_okD F sc_Purse_claims rfl [] (by decide) (fun cdv A outer s H E U Ed hr => ⟨_, (dss_one (ds_ret (de_ix rfl (de_fld T.a_all_told rfl (dv 0)) de_int)))⟩) ?_, F.binds (ps := ["self"]) fun _ _ _ _ _ _ us hl => match us, hl with | [_], _ => rfl⟩
  intro ds Q E hl h
  obtain ⟨ns, cs, m, rfl, k⟩ := h
  simp only [mSeq, bnd, gv, DL.ret, hide, startD, asB, List.foldr_nil, List.foldr_cons, List.map_nil, List.map_cons, List.length_cons, List.length_nil, List.nil_append, List.cons_append, List.getD_cons_zero, List.getD_cons_succ, List.set_cons_zero, List.set_cons_succ, List.replicate_succ, List.replicate_zero, Nat.reduceAdd, Nat.reduceSub, m1, m2, mOrd, mGcd, mLcmD, mNeg, mDiv, mI2, mJ2, mAdd, mSub, mMul, mMulD, mMod, mIx, mTup, mLst, mCall, mLen, mEq, mNe, if_true, if_false, Bool.false_eq_true, reduceIte, ite_ap, at20, at21, at30, at31, at32, true_and, dec_true, mNext, mgName, mgTup, mgCons, mgNil, asEnum, asI, mSl, wipeD, setAll, startC, mFld, getA, List.mem_singleton]
  exact k
abbrev s_Purse_money : Stmt := inClass (top 42) 3
theorem sc_Purse_money : FnScope ["self"] ["self"] (defScope s_Purse_money) := ⟨rfl, rfl, rfl, by decide +kernel, rfl, by decide +kernel, by decide +kernel⟩
theorem pr_money (T : Txt P w K mg base C) (g : GG) (hg : GOk K C g) : GP P w K mg base g C.Purse "money" 1 (sp_part C.Purse 2) := by
  obtain ⟨p, f, fd, hp, F⟩ := T.P_Purse_money
  refine ⟨p, f, fd, ["self"], hp, fun_okD F sc_Purse_money rfl [] (by decide) (fun cdv A outer s H E U Ed hr => ⟨_, (dss_one (ds_ret (de_ix rfl (de_fld T.a_all_told rfl (dv 0)) de_int)))⟩) ?_, F.binds (ps := ["self"]) fun _ _ _ _ _ _ us hl => match us, hl with | [_], _ => rfl⟩
  intro ds Q E hl h
  obtain ⟨ns, cs, m, rfl, k⟩ := h
  simp only [mSeq, bnd, gv, DL.ret, hide, startD, asB, List.foldr_nil, List.foldr_cons, List.map_nil, List.map_cons, List.length_cons, List.length_nil, List.nil_append, List.cons_append, List.getD_cons_zero, List.getD_cons_succ, List.set_cons_zero, List.set_cons_succ, List.replicate_succ, List.replicate_zero, Nat.reduceAdd, Nat.reduceSub, m1, m2, mOrd, mGcd, mLcmD, mNeg, mDiv, mI2, mJ2, mAdd, mSub, mMul, mMulD, mMod, mIx, mTup, mLst, mCall, mLen, mEq, mNe, if_true, if_false, Bool.false_eq_true, reduceIte, ite_ap, at20, at21, at30, at31, at32, true_and, dec_true, mNext, mgName, mgTup, mgCons, mgNil, asEnum, asI, mSl, wipeD, setAll, startC, mFld, getA, List.mem_singleton]
  exact k
abbrev s_claims_of : Stmt := top 36
theorem sc_claims_of : FnScope ["purse", "claim"] ["purse"] (defScope s_claims_of) := ⟨rfl, rfl, rfl, by decide +kernel, rfl, by decide +kernel, by decide +kernel⟩
theorem okf_claims_of (T : Txt P w K mg base C) (g : GG) (hg : GOk K C g) {f : Addr} {fd : FuncData} (F : Fun K "claims_of" "claims_of" (top 36) f fd) : FnOk P w K mg base (L2.CX P w) 3 f fd ["purse"] (spOf K g 1 (sp_claims_of C.Purse)) := by
  have G_as_fraction := ok_as_fraction (base := base) T g hg
  have P_claims := pr_claims (base := base) T g hg
  refine fun_okD F sc_claims_of rfl [] (by decide) (fun cdv A outer s H E U Ed hr => ⟨_, (dss_one (ds_ret (DF.de (df_lc rfl sc_claims_of.nd (di_any rfl (de_prop P_claims T.cl_Purse hr (by omega) rfl (dv 0))) (own := [("claim", 1)]) (blk_of (N := ["purse", "claim"]) (sc := defScope s_claims_of) (by decide +kernel)) (fun s H C cl fp => (dge_name 1 sc_claims_of.nd)) (fun s H C cl fp => dts_nil) (fun s H C cl fp => (de_call G_as_fraction hr (by omega) takesN rfl (da_cons (dv 1) da_nil))) (fun _ => rfl)))))⟩) ?_
  intro ds Q E hl h
  obtain ⟨ns, cs, m, rfl, hz, k⟩ := h
  simp only [mSeq, bnd, gv, DL.ret, hide, startD, asB, List.foldr_nil, List.foldr_cons, List.map_nil, List.map_cons, List.length_cons, List.length_nil, List.nil_append, List.cons_append, List.getD_cons_zero, List.getD_cons_succ, List.set_cons_zero, List.set_cons_succ, List.replicate_succ, List.replicate_zero, Nat.reduceAdd, Nat.reduceSub, m1, m2, mOrd, mGcd, mLcmD, mNeg, mDiv, mI2, mJ2, mAdd, mSub, mMul, mMulD, mMod, mIx, mTup, mLst, mCall, mLen, mEq, mNe, if_true, if_false, Bool.false_eq_true, reduceIte, ite_ap, at20, at21, at30, at31, at32, true_and, dec_true, mNext, mgName, mgTup, mgCons, mgNil, asEnum, asI, mSl, wipeD, setAll, startC]
  refine ⟨⟨_, _, rfl⟩, ns, cs, m, rfl, ?_⟩
  simp only [mSeq, bnd, gv, DL.ret, hide, startD, asB, List.foldr_nil, List.foldr_cons, List.map_nil, List.map_cons, List.length_cons, List.length_nil, List.nil_append, List.cons_append, List.getD_cons_zero, List.getD_cons_succ, List.set_cons_zero, List.set_cons_succ, List.replicate_succ, List.replicate_zero, Nat.reduceAdd, Nat.reduceSub, m1, m2, mOrd, mGcd, mLcmD, mNeg, mDiv, mI2, mJ2, mAdd, mSub, mMul, mMulD, mMod, mIx, mTup, mLst, mCall, mLen, mEq, mNe, if_true, if_false, Bool.false_eq_true, reduceIte, ite_ap, at20, at21, at30, at31, at32, true_and, dec_true, mNext, mgName, mgTup, mgCons, mgNil, asEnum, asI, mSl, wipeD, setAll, startC, asItems]
  refine ⟨by rw [List.length_map, sizeLine_eq]; omega, lcW_map (f := fun d => match d with | .int i => rD (i : Rat) | d => d) _ _ (fun d hd κ hk => ?_) ?_⟩
  · obtain ⟨i, hi, rfl⟩ := List.mem_map.mp hd
    simp only [mSeq, bnd, gv, DL.ret, hide, startD, asB, List.foldr_nil, List.foldr_cons, List.map_nil, List.map_cons, List.length_cons, List.length_nil, List.nil_append, List.cons_append, List.getD_cons_zero, List.getD_cons_succ, List.set_cons_zero, List.set_cons_succ, List.replicate_succ, List.replicate_zero, Nat.reduceAdd, Nat.reduceSub, m1, m2, mOrd, mGcd, mLcmD, mNeg, mDiv, mI2, mJ2, mAdd, mSub, mMul, mMulD, mMod, mIx, mTup, mLst, mCall, mLen, mEq, mNe, if_true, if_false, Bool.false_eq_true, reduceIte, ite_ap, at20, at21, at30, at31, at32, true_and, dec_true, mNext, mgName, mgTup, mgCons, mgNil, asEnum, asI, mSl, wipeD, setAll, startC]
    exact ⟨i, rfl, hk⟩
  · rw [List.map_map]
    exact k
theorem ok_claims_of (T : Txt P w K mg base C) (g : GG) (hg : GOk K C g) : GF P w K mg base g "claims_of" 1 3 (sp_claims_of C.Purse) := by
  obtain ⟨f, fd, F, hm⟩ := T.F_claims_of
  exact gf_of F hm (F.binds (ps := ["purse"]) fun _ _ _ _ _ _ us hl => match us, hl with | [_], _ => rfl) (okf_claims_of T g hg F)
abbrev s__law_divisor : Stmt := top 55
theorem sc__law_divisor : FnScope ["one", "two"] ["one", "two"] (defScope s__law_divisor) := ⟨rfl, rfl, rfl, by decide +kernel, rfl, by decide +kernel, by decide +kernel⟩
theorem okf__law_divisor (T : Txt P w K mg base C) (g : GG) (hg : GOk K C g) {f : Addr} {fd : FuncData} (F : Fun K "_law_divisor" "_law_divisor" (top 55) f fd) : FnOk P w K mg base (L2.CX P w) 1 f fd ["one", "two"] (spOf K g 2 sp_divisor) := by
  refine fun_okD F sc__law_divisor rfl [] (by decide) (fun cdv A outer s H E U Ed hr => ⟨_, (dss_cons (ds_while bPass (dt_cmp opGt rmOrd (dv 1) de_int) (dss_one (ds_par2 (i := 0) (j := 1) rfl sc__law_divisor.nd (dr_val (dv 1) (dr_val (de_op op_modN rmMod (de_ct crInt rmInt T.n_int rfl (da_cons (dv 0) da_nil)) (dv 1)) dr_nil)))))
      (dss_one (ds_ret (dv 0))))⟩) ?_
  intro ds Q E hl h
  obtain ⟨a, b, rfl, k⟩ := h
  simp only [mSeq, bnd, gv, DL.ret, hide, startD, asB, List.foldr_nil, List.foldr_cons, List.map_nil, List.map_cons, List.length_cons, List.length_nil, List.nil_append, List.cons_append, List.getD_cons_zero, List.getD_cons_succ, List.set_cons_zero, List.set_cons_succ, List.replicate_succ, List.replicate_zero, Nat.reduceAdd, Nat.reduceSub, m1, m2, mOrd, mGcd, mLcmD, mNeg, mDiv, mI2, mJ2, mAdd, mSub, mMul, mMulD, mMod, mIx, mTup, mLst, mCall, mLen, mEq, mNe, if_true, if_false, Bool.false_eq_true, reduceIte, ite_ap, at20, at21, at30, at31, at32, true_and, dec_true, mNext, mgName, mgTup, mgCons, mgNil, asEnum, asI, mSl, wipeD, setAll, startC]
  refine ⟨fun m ρ => ∃ x y : Nat, ρ = [some (.int x), some (.int y)] ∧ m = y ∧ Nat.gcd x y = Nat.gcd a b, ⟨b, a, b, rfl, rfl, rfl⟩, fun m ρ hP => ?_⟩
  obtain ⟨x, y, rfl, rfl, hg⟩ := hP
  simp only [mSeq, bnd, gv, DL.ret, hide, startD, asB, List.foldr_nil, List.foldr_cons, List.map_nil, List.map_cons, List.length_cons, List.length_nil, List.nil_append, List.cons_append, List.getD_cons_zero, List.getD_cons_succ, List.set_cons_zero, List.set_cons_succ, List.replicate_succ, List.replicate_zero, Nat.reduceAdd, Nat.reduceSub, m1, m2, mOrd, mGcd, mLcmD, mNeg, mDiv, mI2, mJ2, mAdd, mSub, mMul, mMulD, mMod, mIx, mTup, mLst, mCall, mLen, mEq, mNe, if_true, if_false, Bool.false_eq_true, reduceIte, ite_ap, at20, at21, at30, at31, at32, true_and, dec_true, mNext, mgName, mgTup, mgCons, mgNil, asEnum, asI, mSl, wipeD, setAll, startC]
  by_cases h0 : 0 < (m : Int)
  · rw [if_pos h0]
    refine ⟨fun ρ' => ∃ x y : Nat, ρ' = [some (.int x), some (.int y)] ∧ y < m ∧ Nat.gcd x y = Nat.gcd a b, fun ρ' h => ?_, ?_⟩
    · obtain ⟨x', y', e, l, g⟩ := h
      exact ⟨y', l, x', y', e, rfl, g⟩
    · simp only [mSeq, bnd, gv, DL.ret, hide, startD, asB, List.foldr_nil, List.foldr_cons, List.map_nil, List.map_cons, List.length_cons, List.length_nil, List.nil_append, List.cons_append, List.getD_cons_zero, List.getD_cons_succ, List.set_cons_zero, List.set_cons_succ, List.replicate_succ, List.replicate_zero, Nat.reduceAdd, Nat.reduceSub, m1, m2, mOrd, mGcd, mLcmD, mNeg, mDiv, mI2, mJ2, mAdd, mSub, mMul, mMulD, mMod, mIx, mTup, mLst, mCall, mLen, mEq, mNe, if_true, if_false, Bool.false_eq_true, reduceIte, ite_ap, at20, at21, at30, at31, at32, true_and, dec_true, mNext, mgName, mgTup, mgCons, mgNil, asEnum, asI, mSl, wipeD, setAll, startC, mInt, setAll]
      refine ⟨by omega, m, x % m, ?_, Nat.mod_lt _ (by omega), ?_⟩
      · rw [Int.fmod_eq_emod_of_nonneg _ (by omega)]
        rfl
      · rw [← hg, Nat.gcd_comm x m, Nat.gcd_rec m x, Nat.gcd_comm]
  · rw [if_neg h0]
    have : m = 0 := by omega
    subst this
    rw [Nat.gcd_zero_right] at hg
    rw [hg]
    exact k
theorem ok__law_divisor (T : Txt P w K mg base C) (g : GG) (hg : GOk K C g) : GF P w K mg base g "_law_divisor" 2 1 sp_divisor := by
  obtain ⟨f, fd, F, hm⟩ := T.F__law_divisor
  exact gf_of F hm (F.binds (ps := ["one", "two"]) fun _ _ _ _ _ _ us hl => match us, hl with | [_, _], _ => rfl) (okf__law_divisor T g hg F)
abbrev s__law_frac : Stmt := top 56
theorem sc__law_frac : FnScope ["n", "m", "by"] ["n", "m"] (defScope s__law_frac) := ⟨rfl, rfl, rfl, by decide +kernel, rfl, by decide +kernel, by decide +kernel⟩
theorem okf__law_frac (T : Txt P w K mg base C) (g : GG) (hg : GOk K C g) {f : Addr} {fd : FuncData} (F : Fun K "_law_frac" "_law_frac" (top 56) f fd) : FnOk P w K mg base (L2.CX P w) 2 f fd ["n", "m"] (spOf K g 2 sp_frac) := by
  have G__law_divisor := ok__law_divisor (base := base) T g hg
  refine fun_okD F sc__law_frac rfl [] (by decide) (fun cdv A outer s H E U Ed hr => ⟨_, (dss_cons (ds_set (i := 2) sc__law_frac.nd (de_call G__law_divisor hr (by omega) bTakes rfl (da_cons (de_cb crAbs rmAbs T.n_abs rfl (da_cons (dv 0) da_nil)) (da_cons (dv 1) da_nil))))
      (dss_one (ds_ret (de_tup (da_cons (de_op opDiv rmDiv (dv 0) (dv 2)) (da_cons (de_op opDiv rmDiv (dv 1) (dv 2)) da_nil))))))⟩) ?_
  intro ds Q E hl h
  obtain ⟨n, m, rfl, h0, hs, k⟩ := h
  have hb : m ≠ 0 := by omega
  have hc : DivOk n (cdiv n m) := divOk_of (l := 8000) (cdiv_ne hb) (Nat.lt_of_le_of_lt (cdiv_le hb) hs) (by decide)
  have hd : DivOk m (cdiv n m) := hc
  rw [← rD_of hb] at k
  have e : cdiv n m = ((Nat.gcd n.natAbs m.natAbs : Nat) : Int) := if_pos h0
  rw [e] at hc hd k
  simp only [mSeq, bnd, gv, DL.ret, hide, startD, asB, List.foldr_nil, List.foldr_cons, List.map_nil, List.map_cons, List.length_cons, List.length_nil, List.nil_append, List.cons_append, List.getD_cons_zero, List.getD_cons_succ, List.set_cons_zero, List.set_cons_succ, List.replicate_succ, List.replicate_zero, Nat.reduceAdd, Nat.reduceSub, m1, m2, mOrd, mGcd, mLcmD, mNeg, mDiv, mI2, mJ2, mAdd, mSub, mMul, mMulD, mMod, mIx, mTup, mLst, mCall, mLen, mEq, mNe, if_true, if_false, Bool.false_eq_true, reduceIte, ite_ap, at20, at21, at30, at31, at32, true_and, dec_true, mNext, mgName, mgTup, mgCons, mgNil, asEnum, asI, mSl, wipeD, setAll, startC, mAbs]
  refine ⟨n.natAbs, m.natAbs, ?_, hc, hd, two_le, k⟩
  rw [Int.natAbs_of_nonneg (Int.le_of_lt h0)]
  congr 3
  split <;> omega
theorem ok__law_frac (T : Txt P w K mg base C) (g : GG) (hg : GOk K C g) : GF P w K mg base g "_law_frac" 2 2 sp_frac := by
  obtain ⟨f, fd, F, hm⟩ := T.F__law_frac
  exact gf_of F hm (F.binds (ps := ["n", "m"]) fun _ _ _ _ _ _ us hl => match us, hl with | [_, _], _ => rfl) (okf__law_frac T g hg F)
abbrev s__law_add : Stmt := top 57
theorem sc__law_add : FnScope ["a", "b"] ["a", "b"] (defScope s__law_add) := ⟨rfl, rfl, rfl, by decide +kernel, rfl, by decide +kernel, by decide +kernel⟩
theorem okf__law_add (T : Txt P w K mg base C) (g : GG) (hg : GOk K C g) {f : Addr} {fd : FuncData} (F : Fun K "_law_add" "_law_add" (top 57) f fd) : FnOk P w K mg base (L2.CX P w) 3 f fd ["a", "b"] (spOf K g 2 sp_plus) := by
  have G__law_frac := ok__law_frac (base := base) T g hg
  refine fun_okD F sc__law_add rfl [] (by decide) (fun cdv A outer s H E U Ed hr => ⟨_, (dss_one (ds_ret (de_call G__law_frac hr (by omega) bTakes rfl (da_cons (de_op opAdd rmAdd (de_op opMul rmMul (de_ix rfl (dv 0) de_int) (de_ix rfl (dv 1) de_int)) (de_op opMul rmMul (de_ix rfl (dv 1) de_int) (de_ix rfl (dv 0) de_int))) (da_cons (de_op opMul rmMul (de_ix rfl (dv 0) de_int) (de_ix rfl (dv 1) de_int)) da_nil)))))⟩) ?_
  intro ds Q E hl h
  obtain ⟨p, q, rfl, hp, hq, hc, k⟩ := h
  simp only [mSeq, bnd, gv, DL.ret, hide, startD, asB, List.foldr_nil, List.foldr_cons, List.map_nil, List.map_cons, List.length_cons, List.length_nil, List.nil_append, List.cons_append, List.getD_cons_zero, List.getD_cons_succ, List.set_cons_zero, List.set_cons_succ, List.replicate_succ, List.replicate_zero, Nat.reduceAdd, Nat.reduceSub, m1, m2, mOrd, mGcd, mLcmD, mNeg, mDiv, mI2, mJ2, mAdd, mSub, mMul, mMulD, mMod, mIx, mTup, mLst, mCall, mLen, mEq, mNe, if_true, if_false, Bool.false_eq_true, reduceIte, ite_ap, at20, at21, at30, at31, at32, true_and, dec_true, mNext, mgName, mgTup, mgCons, mgNil, asEnum, asI, mSl, wipeD, setAll, startC]
  exact ⟨mulOk_of (k := 2000) (l := 2000) (by first | exact hp.1 | exact hq.1 | exact bd_dn hp | exact bd_dn hq) (by first | exact hp.1 | exact hq.1 | exact bd_dn hp | exact bd_dn hq) (by decide), mulOk_of (k := 2000) (l := 2000) (by first | exact hp.1 | exact hq.1 | exact bd_dn hp | exact bd_dn hq) (by first | exact hp.1 | exact hq.1 | exact bd_dn hp | exact bd_dn hq) (by decide), mulOk_of (k := 2000) (l := 2000) (by first | exact hp.1 | exact hq.1 | exact bd_dn hp | exact bd_dn hq) (by first | exact hp.1 | exact hq.1 | exact bd_dn hp | exact bd_dn hq) (by decide), _, _, rfl, Int.mul_pos nn_of nn_of, Nat.lt_of_lt_of_le (natAbs_mul_lt (bd_dn hp) (bd_dn hq)) (Nat.pow_le_pow_right (by decide) (by decide)), by simpa only [add_div] using k⟩
theorem ok__law_add (T : Txt P w K mg base C) (g : GG) (hg : GOk K C g) : GF P w K mg base g "_law_add" 2 3 sp_plus := by
  obtain ⟨f, fd, F, hm⟩ := T.F__law_add
  exact gf_of F hm (F.binds (ps := ["a", "b"]) fun _ _ _ _ _ _ us hl => match us, hl with | [_, _], _ => rfl) (okf__law_add T g hg F)
abbrev s__law_times : Stmt := top 58
theorem sc__law_times : FnScope ["a", "b"] ["a", "b"] (defScope s__law_times) := ⟨rfl, rfl, rfl, by decide +kernel, rfl, by decide +kernel, by decide +kernel⟩
theorem okf__law_times (T : Txt P w K mg base C) (g : GG) (hg : GOk K C g) {f : Addr} {fd : FuncData} (F : Fun K "_law_times" "_law_times" (top 58) f fd) : FnOk P w K mg base (L2.CX P w) 3 f fd ["a", "b"] (spOf K g 2 sp_times) := by
  have G__law_frac := ok__law_frac (base := base) T g hg
  refine fun_okD F sc__law_times rfl [] (by decide) (fun cdv A outer s H E U Ed hr => ⟨_, (dss_one (ds_ret (de_call G__law_frac hr (by omega) bTakes rfl (da_cons (de_op opMul rmMul (de_ix rfl (dv 0) de_int) (de_ix rfl (dv 1) de_int)) (da_cons (de_op opMul rmMul (de_ix rfl (dv 0) de_int) (de_ix rfl (dv 1) de_int)) da_nil)))))⟩) ?_
  intro ds Q E hl h
  obtain ⟨p, q, rfl, hp, hq, hc, k⟩ := h
  simp only [mSeq, bnd, gv, DL.ret, hide, startD, asB, List.foldr_nil, List.foldr_cons, List.map_nil, List.map_cons, List.length_cons, List.length_nil, List.nil_append, List.cons_append, List.getD_cons_zero, List.getD_cons_succ, List.set_cons_zero, List.set_cons_succ, List.replicate_succ, List.replicate_zero, Nat.reduceAdd, Nat.reduceSub, m1, m2, mOrd, mGcd, mLcmD, mNeg, mDiv, mI2, mJ2, mAdd, mSub, mMul, mMulD, mMod, mIx, mTup, mLst, mCall, mLen, mEq, mNe, if_true, if_false, Bool.false_eq_true, reduceIte, ite_ap, at20, at21, at30, at31, at32, true_and, dec_true, mNext, mgName, mgTup, mgCons, mgNil, asEnum, asI, mSl, wipeD, setAll, startC]
  exact ⟨mulOk_of (k := 2000) (l := 2000) (by first | exact hp.1 | exact hq.1 | exact bd_dn hp | exact bd_dn hq) (by first | exact hp.1 | exact hq.1 | exact bd_dn hp | exact bd_dn hq) (by decide), mulOk_of (k := 2000) (l := 2000) (by first | exact hp.1 | exact hq.1 | exact bd_dn hp | exact bd_dn hq) (by first | exact hp.1 | exact hq.1 | exact bd_dn hp | exact bd_dn hq) (by decide), _, _, rfl, Int.mul_pos nn_of nn_of, Nat.lt_of_lt_of_le (natAbs_mul_lt (bd_dn hp) (bd_dn hq)) (Nat.pow_le_pow_right (by decide) (by decide)), by simpa only [mul_div] using k⟩
theorem ok__law_times (T : Txt P w K mg base C) (g : GG) (hg : GOk K C g) : GF P w K mg base g "_law_times" 2 3 sp_times := by
  obtain ⟨f, fd, F, hm⟩ := T.F__law_times
  exact gf_of F hm (F.binds (ps := ["a", "b"]) fun _ _ _ _ _ _ us hl => match us, hl with | [_, _], _ => rfl) (okf__law_times T g hg F)
abbrev s__law_less : Stmt := top 59
theorem sc__law_less : FnScope ["a"] ["a"] (defScope s__law_less) := ⟨rfl, rfl, rfl, by decide +kernel, rfl, by decide +kernel, by decide +kernel⟩
theorem okf__law_less (T : Txt P w K mg base C) (g : GG) (hg : GOk K C g) {f : Addr} {fd : FuncData} (F : Fun K "_law_less" "_law_less" (top 59) f fd) : FnOk P w K mg base (L2.CX P w) 1 f fd ["a"] (spOf K g 1 sp_neg) := by
  refine fun_okD F sc__law_less rfl [] (by decide) (fun cdv A outer s H E U Ed hr => ⟨_, (dss_one (ds_ret (de_tup (da_cons (de_op op_sub rmSub de_int (de_ix rfl (dv 0) de_int)) (da_cons (de_ix rfl (dv 0) de_int) da_nil)))))⟩) ?_
  intro ds Q E hl h
  obtain ⟨p, rfl, k⟩ := h
  simp only [mSeq, bnd, gv, DL.ret, hide, startD, asB, List.foldr_nil, List.foldr_cons, List.map_nil, List.map_cons, List.length_cons, List.length_nil, List.nil_append, List.cons_append, List.getD_cons_zero, List.getD_cons_succ, List.set_cons_zero, List.set_cons_succ, List.replicate_succ, List.replicate_zero, Nat.reduceAdd, Nat.reduceSub, m1, m2, mOrd, mGcd, mLcmD, mNeg, mDiv, mI2, mJ2, mAdd, mSub, mMul, mMulD, mMod, mIx, mTup, mLst, mCall, mLen, mEq, mNe, if_true, if_false, Bool.false_eq_true, reduceIte, ite_ap, at20, at21, at30, at31, at32, true_and, dec_true, mNext, mgName, mgTup, mgCons, mgNil, asEnum, asI, mSl, wipeD, setAll, startC]
  refine ⟨two_le, ?_⟩
  rw [Int.zero_sub]
  exact k
theorem ok__law_less (T : Txt P w K mg base C) (g : GG) (hg : GOk K C g) : GF P w K mg base g "_law_less" 1 1 sp_neg := by
  obtain ⟨f, fd, F, hm⟩ := T.F__law_less
  exact gf_of F hm (F.binds (ps := ["a"]) fun _ _ _ _ _ _ us hl => match us, hl with | [_], _ => rfl) (okf__law_less T g hg F)
abbrev s__law_by : Stmt := top 60
theorem sc__law_by : FnScope ["a", "b"] ["a", "b"] (defScope s__law_by) := ⟨rfl, rfl, rfl, by decide +kernel, rfl, by decide +kernel, by decide +kernel⟩
theorem okf__law_by (T : Txt P w K mg base C) (g : GG) (hg : GOk K C g) {f : Addr} {fd : FuncData} (F : Fun K "_law_by" "_law_by" (top 60) f fd) : FnOk P w K mg base (L2.CX P w) 3 f fd ["a", "b"] (spOf K g 2 sp_by) := by
  have G__law_frac := ok__law_frac (base := base) T g hg
  refine fun_okD F sc__law_by rfl [] (by decide) (fun cdv A outer s H E U Ed hr => ⟨_, (dss_one (ds_ret (de_call G__law_frac hr (by omega) bTakes rfl (da_cons (de_op opMul rmMul (de_ix rfl (dv 0) de_int) (de_ix rfl (dv 1) de_int)) (da_cons (de_op opMul rmMul (de_ix rfl (dv 0) de_int) (de_ix rfl (dv 1) de_int)) da_nil)))))⟩) ?_
  intro ds Q E hl h
  obtain ⟨p, q, rfl, hp, hq, hc, k⟩ := h
  simp only [mSeq, bnd, gv, DL.ret, hide, startD, asB, List.foldr_nil, List.foldr_cons, List.map_nil, List.map_cons, List.length_cons, List.length_nil, List.nil_append, List.cons_append, List.getD_cons_zero, List.getD_cons_succ, List.set_cons_zero, List.set_cons_succ, List.replicate_succ, List.replicate_zero, Nat.reduceAdd, Nat.reduceSub, m1, m2, mOrd, mGcd, mLcmD, mNeg, mDiv, mI2, mJ2, mAdd, mSub, mMul, mMulD, mMod, mIx, mTup, mLst, mCall, mLen, mEq, mNe, if_true, if_false, Bool.false_eq_true, reduceIte, ite_ap, at20, at21, at30, at31, at32, true_and, dec_true, mNext, mgName, mgTup, mgCons, mgNil, asEnum, asI, mSl, wipeD, setAll, startC]
  exact ⟨mulOk_of (k := 2000) (l := 2000) (by first | exact hp.1 | exact hq.1 | exact bd_dn hp | exact bd_dn hq) (by first | exact hp.1 | exact hq.1 | exact bd_dn hp | exact bd_dn hq) (by decide), mulOk_of (k := 2000) (l := 2000) (by first | exact hp.1 | exact hq.1 | exact bd_dn hp | exact bd_dn hq) (by first | exact hp.1 | exact hq.1 | exact bd_dn hp | exact bd_dn hq) (by decide), _, _, rfl, Int.mul_pos nn_of (num_pos hc), Nat.lt_of_lt_of_le (natAbs_mul_lt (bd_dn hp) hq.1) (Nat.pow_le_pow_right (by decide) (by decide)), by simpa only [div_div p q (Rat.ne_of_gt hc)] using k⟩
theorem ok__law_by (T : Txt P w K mg base C) (g : GG) (hg : GOk K C g) : GF P w K mg base g "_law_by" 2 3 sp_by := by
  obtain ⟨f, fd, F, hm⟩ := T.F__law_by
  exact gf_of F hm (F.binds (ps := ["a", "b"]) fun _ _ _ _ _ _ us hl => match us, hl with | [_, _], _ => rfl) (okf__law_by T g hg F)
abbrev s__law_below : Stmt := top 61
theorem sc__law_below : FnScope ["a", "b"] ["a", "b"] (defScope s__law_below) := ⟨rfl, rfl, rfl, by decide +kernel, rfl, by decide +kernel, by decide +kernel⟩
theorem okf__law_below (T : Txt P w K mg base C) (g : GG) (hg : GOk K C g) {f : Addr} {fd : FuncData} (F : Fun K "_law_below" "_law_below" (top 61) f fd) : FnOk P w K mg base (L2.CX P w) 1 f fd ["a", "b"] (spOf K g 2 sp_is_less) := by
  refine fun_okD F sc__law_below rfl [] (by decide) (fun cdv A outer s H E U Ed hr => ⟨_, (dss_one (ds_ret (de_cmp opLt rmOrd (de_op opMul rmMul (de_ix rfl (dv 0) de_int) (de_ix rfl (dv 1) de_int)) (de_op opMul rmMul (de_ix rfl (dv 1) de_int) (de_ix rfl (dv 0) de_int)))))⟩) ?_
  intro ds Q E hl h
  obtain ⟨p, q, rfl, hp, hq, hc, k⟩ := h
  simp only [mSeq, bnd, gv, DL.ret, hide, startD, asB, List.foldr_nil, List.foldr_cons, List.map_nil, List.map_cons, List.length_cons, List.length_nil, List.nil_append, List.cons_append, List.getD_cons_zero, List.getD_cons_succ, List.set_cons_zero, List.set_cons_succ, List.replicate_succ, List.replicate_zero, Nat.reduceAdd, Nat.reduceSub, m1, m2, mOrd, mGcd, mLcmD, mNeg, mDiv, mI2, mJ2, mAdd, mSub, mMul, mMulD, mMod, mIx, mTup, mLst, mCall, mLen, mEq, mNe, if_true, if_false, Bool.false_eq_true, reduceIte, ite_ap, at20, at21, at30, at31, at32, true_and, dec_true, mNext, mgName, mgTup, mgCons, mgNil, asEnum, asI, mSl, wipeD, setAll, startC]
  exact ⟨mulOk_of (k := 2000) (l := 2000) (by first | exact hp.1 | exact hq.1 | exact bd_dn hp | exact bd_dn hq) (by first | exact hp.1 | exact hq.1 | exact bd_dn hp | exact bd_dn hq) (by decide), mulOk_of (k := 2000) (l := 2000) (by first | exact hp.1 | exact hq.1 | exact bd_dn hp | exact bd_dn hq) (by first | exact hp.1 | exact hq.1 | exact bd_dn hp | exact bd_dn hq) (by decide), by simpa only [lt_dec] using k⟩
theorem ok__law_below (T : Txt P w K mg base C) (g : GG) (hg : GOk K C g) : GF P w K mg base g "_law_below" 2 1 sp_is_less := by
  obtain ⟨f, fd, F, hm⟩ := T.F__law_below
  exact gf_of F hm (F.binds (ps := ["a", "b"]) fun _ _ _ _ _ _ us hl => match us, hl with | [_, _], _ => rfl) (okf__law_below T g hg F)
abbrev s__law_minus : Stmt := top 62
theorem sc__law_minus : FnScope ["a", "b"] ["a", "b"] (defScope s__law_minus) := ⟨rfl, rfl, rfl, by decide +kernel, rfl, by decide +kernel, by decide +kernel⟩
theorem okf__law_minus (T : Txt P w K mg base C) (g : GG) (hg : GOk K C g) {f : Addr} {fd : FuncData} (F : Fun K "_law_minus" "_law_minus" (top 62) f fd) : FnOk P w K mg base (L2.CX P w) 4 f fd ["a", "b"] (spOf K g 2 sp_minus) := by
  have G__law_add := ok__law_add (base := base) T g hg
  have G__law_less := ok__law_less (base := base) T g hg
  refine fun_okD F sc__law_minus rfl [] (by decide) (fun cdv A outer s H E U Ed hr => ⟨_, (dss_one (ds_ret (de_call G__law_add hr (by omega) bTakes rfl (da_cons (dv 0) (da_cons (de_call G__law_less hr (by omega) bTakes rfl (da_cons (dv 1) da_nil)) da_nil)))))⟩) ?_
  intro ds Q E hl h
  obtain ⟨p, q, rfl, hp, hq, hc, k⟩ := h
  simp only [mSeq, bnd, gv, DL.ret, hide, startD, asB, List.foldr_nil, List.foldr_cons, List.map_nil, List.map_cons, List.length_cons, List.length_nil, List.nil_append, List.cons_append, List.getD_cons_zero, List.getD_cons_succ, List.set_cons_zero, List.set_cons_succ, List.replicate_succ, List.replicate_zero, Nat.reduceAdd, Nat.reduceSub, m1, m2, mOrd, mGcd, mLcmD, mNeg, mDiv, mI2, mJ2, mAdd, mSub, mMul, mMulD, mMod, mIx, mTup, mLst, mCall, mLen, mEq, mNe, if_true, if_false, Bool.false_eq_true, reduceIte, ite_ap, at20, at21, at30, at31, at32, true_and, dec_true, mNext, mgName, mgTup, mgCons, mgNil, asEnum, asI, mSl, wipeD, setAll, startC]
  exact ⟨q, rfl, p, -q, rfl, hp, hq.neg, trivial, by simpa only [Rat.sub_eq_add_neg] using k⟩
theorem ok__law_minus (T : Txt P w K mg base C) (g : GG) (hg : GOk K C g) : GF P w K mg base g "_law_minus" 2 4 sp_minus := by
  obtain ⟨f, fd, F, hm⟩ := T.F__law_minus
  exact gf_of F hm (F.binds (ps := ["a", "b"]) fun _ _ _ _ _ _ us hl => match us, hl with | [_, _], _ => rfl) (okf__law_minus T g hg F)
abbrev s__law_sum : Stmt := top 63
theorem sc__law_sum : FnScope ["values", "found", "value"] ["values"] (defScope s__law_sum) := ⟨rfl, rfl, rfl, by decide +kernel, rfl, by decide +kernel, by decide +kernel⟩
theorem okf__law_sum (T : Txt P w K mg base C) (g : GG) (hg : GOk K C g) {f : Addr} {fd : FuncData} (F : Fun K "_law_sum" "_law_sum" (top 63) f fd) : FnOk P w K mg base (L2.CX P w) 4 f fd ["values"] (spOf K g 1 sp_total) := by
  have G__law_add := ok__law_add (base := base) T g hg
  refine fun_okD F sc__law_sum rfl [] (by decide) (fun cdv A outer s H E U Ed hr => ⟨_, (dss_cons (ds_set (i := 1) sc__law_sum.nd (de_tup (da_cons de_int (da_cons de_int da_nil))))
      (dss_cons (ds_for bPass rfl (di_any rfl (dv 0)) (dg_name 2 sc__law_sum.nd) (dss_one (ds_set (i := 1) sc__law_sum.nd (de_call G__law_add hr (by omega) bTakes rfl (da_cons (dv 1) (da_cons (dv 2) da_nil))))) (fun _ => rfl))
      (dss_one (ds_ret (dv 1)))))⟩) ?_
  intro ds Q E hl h
  obtain ⟨d, qs, rfl, hi, hb, hn, k⟩ := h
  simp only [mSeq, bnd, gv, DL.ret, hide, startD, asB, List.foldr_nil, List.foldr_cons, List.map_nil, List.map_cons, List.length_cons, List.length_nil, List.nil_append, List.cons_append, List.getD_cons_zero, List.getD_cons_succ, List.set_cons_zero, List.set_cons_succ, List.replicate_succ, List.replicate_zero, Nat.reduceAdd, Nat.reduceSub, m1, m2, mOrd, mGcd, mLcmD, mNeg, mDiv, mI2, mJ2, mAdd, mSub, mMul, mMulD, mMod, mIx, mTup, mLst, mCall, mLen, mEq, mNe, if_true, if_false, Bool.false_eq_true, reduceIte, ite_ap, at20, at21, at30, at31, at32, true_and, dec_true, mNext, mgName, mgTup, mgCons, mgNil, asEnum, asI, mSl, wipeD, setAll, startC]
  refine ⟨two_le, ?_⟩
  rw [asItems_seq hi]
  refine forW_ind (fun n ρ => ∃ o, ρ = [some d, some (rD (qs.take n).sum), o]) _ 0 _ ⟨none, rfl⟩ (fun i e ρ κ hie hI hk => ?_) (fun ρ hI => ?_)
  · obtain ⟨o, rfl⟩ := hI
    rw [List.getElem?_map] at hie
    cases eq : qs[i]? with
    | none => rw [eq] at hie; cases hie
    | some q =>
      rw [eq] at hie
      cases hie
      simp only [mSeq, bnd, gv, DL.ret, hide, startD, asB, List.foldr_nil, List.foldr_cons, List.map_nil, List.map_cons, List.length_cons, List.length_nil, List.nil_append, List.cons_append, List.getD_cons_zero, List.getD_cons_succ, List.set_cons_zero, List.set_cons_succ, List.replicate_succ, List.replicate_zero, Nat.reduceAdd, Nat.reduceSub, m1, m2, mOrd, mGcd, mLcmD, mNeg, mDiv, mI2, mJ2, mAdd, mSub, mMul, mMulD, mMod, mIx, mTup, mLst, mCall, mLen, mEq, mNe, if_true, if_false, Bool.false_eq_true, reduceIte, ite_ap, at20, at21, at30, at31, at32, true_and, dec_true, mNext, mgName, mgTup, mgCons, mgNil, asEnum, asI, mSl, wipeD, setAll, startC]
      have hq := hb q (List.mem_of_getElem? eq)
      have hi2 := (List.getElem?_eq_some_iff.mp eq).1
      refine ⟨_, q, rfl, (Bd.sum (fun x hx => hb x (List.mem_of_mem_take hx))).mono ?_, hq.mono (by decide), trivial, hk _ ⟨some (rD q), ?_⟩⟩
      · have := List.length_take_le (0 + i) qs
        omega
      · rw [show 0 + i + 1 = i + 1 by omega, sum_take_succ' eq, Nat.zero_add]
        all_goals rfl
  · obtain ⟨o, rfl⟩ := hI
    simp only [mSeq, bnd, gv, DL.ret, hide, startD, asB, List.foldr_nil, List.foldr_cons, List.map_nil, List.map_cons, List.length_cons, List.length_nil, List.nil_append, List.cons_append, List.getD_cons_zero, List.getD_cons_succ, List.set_cons_zero, List.set_cons_succ, List.replicate_succ, List.replicate_zero, Nat.reduceAdd, Nat.reduceSub, m1, m2, mOrd, mGcd, mLcmD, mNeg, mDiv, mI2, mJ2, mAdd, mSub, mMul, mMulD, mMod, mIx, mTup, mLst, mCall, mLen, mEq, mNe, if_true, if_false, Bool.false_eq_true, reduceIte, ite_ap, at20, at21, at30, at31, at32, true_and, dec_true, mNext, mgName, mgTup, mgCons, mgNil, asEnum, asI, mSl, wipeD, setAll, startC]
    rw [List.length_map, Nat.zero_add, List.take_length]
    exact k
theorem ok__law_sum (T : Txt P w K mg base C) (g : GG) (hg : GOk K C g) : GF P w K mg base g "_law_sum" 1 4 sp_total := by
  obtain ⟨f, fd, F, hm⟩ := T.F__law_sum
  exact gf_of F hm (F.binds (ps := ["values"]) fun _ _ _ _ _ _ us hl => match us, hl with | [_], _ => rfl) (okf__law_sum T g hg F)
abbrev s__law_draw : Stmt := top 48
theorem sc__law_draw : FnScope ["well", "limit", "figure", "mixed"] ["well", "limit"] (defScope s__law_draw) := ⟨rfl, rfl, rfl, by decide +kernel, rfl, by decide +kernel, by decide +kernel⟩
theorem okf__law_draw (T : Txt P w K mg base C) (g : GG) (hg : GOk K C g) {f : Addr} {fd : FuncData} (F : Fun K "_law_draw" "_law_draw" (top 48) f fd) : FnOk P w K mg base (L2.CX P w) 1 f fd ["well", "limit"] (spOf K g 2 (sp_draw C.Wl)) := by
  refine fun_okD F sc__law_draw rfl [] (by decide) (fun cdv A outer s H E U Ed hr => ⟨_, (dss_cons (ds_if (dt_cmp opGt rmOrd (de_wix (i := 0) hg.w rfl (by decide) (by decide)) de_int) (dss_cons (ds_asg (de_cb call_divmod rmDivmod T.n_divmod rfl (da_cons (de_wix (i := 0) hg.w rfl (by decide) (by decide)) (da_cons (dv 1) da_nil))) (dg_wpair (i := 0) (f := 2) hg.w rfl rfl (by decide) (by decide) (by decide) (by decide) (by decide) sc__law_draw.nd))
      (dss_one (ds_ret (dv 2)))) dss_nil)
      (dss_cons (ds_wset (i := 0) hg.w rfl (by decide) (by decide) (by decide) (de_op opAdd rmAdd (de_wix (i := 0) hg.w rfl (by decide) (by decide)) de_int))
      (dss_cons (ds_set (i := 3) sc__law_draw.nd (de_op op_modN rmMod (de_ct crInt rmInt T.n_int rfl (da_cons (de_op opAdd rmAdd (de_op opAdd rmAdd (de_op opMul rmMul (de_wix (i := 0) hg.w rfl (by decide) (by decide)) de_int) (de_op opMul rmMul de_int (de_wix (i := 0) hg.w rfl (by decide) (by decide)))) de_int) da_nil)) de_int))
      (dss_cons (ds_wset (i := 0) hg.w rfl (by decide) (by decide) (by decide) (de_op op_modN rmMod (de_ct crInt rmInt T.n_int rfl (da_cons (de_op opAdd rmAdd (de_op opMul rmMul (dv 3) (de_op opAdd rmAdd (de_op op_modN rmMod (de_ct crInt rmInt T.n_int rfl (da_cons (dv 3) da_nil)) de_int) de_int)) (de_wix (i := 0) hg.w rfl (by decide) (by decide))) da_nil)) de_int))
      (dss_one (ds_ret (de_op op_modN rmMod (de_ct crInt rmInt T.n_int rfl (da_cons (de_op opDiv rmDiv (de_wix (i := 0) hg.w rfl (by decide) (by decide)) de_int) da_nil)) (dv 1))))))))⟩) ?_
  intro ds Q E hl h
  obtain ⟨a, l, rfl, hW, h0, h1, k⟩ := h
  simp only [mSeq, bnd, gv, DL.ret, hide, startD, asB, List.foldr_nil, List.foldr_cons, List.map_nil, List.map_cons, List.length_cons, List.length_nil, List.nil_append, List.cons_append, List.getD_cons_zero, List.getD_cons_succ, List.set_cons_zero, List.set_cons_succ, List.replicate_succ, List.replicate_zero, Nat.reduceAdd, Nat.reduceSub, m1, m2, mOrd, mGcd, mLcmD, mNeg, mDiv, mI2, mJ2, mAdd, mSub, mMul, mMulD, mMod, mIx, mTup, mLst, mCall, mLen, mEq, mNe, if_true, if_false, Bool.false_eq_true, reduceIte, ite_ap, at20, at21, at30, at31, at32, true_and, dec_true, mNext, mgName, mgTup, mgCons, mgNil, asEnum, asI, mSl, wipeD, setAll, startC, isW, mDivmod, mInt]
  refine ⟨hW, fun v => ?_⟩
  have fin : ∀ v : Int, Q (.int (v.fmod l)) := fun v => by
    rw [Int.fmod_eq_emod_of_nonneg _ (by omega)]
    exact k _ (Int.emod_nonneg _ (by omega)) (Int.emod_lt_of_pos _ h0)
  by_cases hv : 0 < v
  · rw [if_pos hv]
    exact ⟨hW, fun v => ⟨⟨h0, h1⟩, hW, k _ (Int.emod_nonneg _ (by omega)) (Int.emod_lt_of_pos _ h0)⟩⟩
  · rw [if_neg hv]
    have c1 : ∀ v : Int, DL.MulOk v 40009 := fun v => .inl (.inr (by decide))
    have c2 : ∀ v : Int, DL.MulOk 15013 v := fun v => .inl (.inl (by decide))
    have c3 : ∀ u v : Int, DL.MulOk u (v.fmod 5003 + 20011) := fun u v => .inl (.inr (by
      have h1 := Int.emod_nonneg v (show (5003 : Int) ≠ 0 by decide)
      have h2 := Int.emod_lt_of_pos v (show (0 : Int) < 5003 by decide)
      rw [Int.fmod_eq_emod_of_nonneg _ (by decide)]
      omega))
    have c4 : ∀ v : Int, DivOk v 1031 := fun v => ⟨by decide, by decide⟩
    exact ⟨hW, fun v => ⟨⟨_, rfl⟩, hW, hW, fun v => ⟨c1 _, hW, fun v1 => ⟨c2 _, by decide, by decide, c3 _ _, hW, fun v2 => ⟨by decide, ⟨_, rfl⟩, hW, hW, fun v => ⟨c4 _, by omega, fin _⟩⟩⟩⟩⟩⟩
theorem ok__law_draw (T : Txt P w K mg base C) (g : GG) (hg : GOk K C g) : GF P w K mg base g "_law_draw" 2 1 (sp_draw C.Wl) := by
  obtain ⟨f, fd, F, hm⟩ := T.F__law_draw
  exact gf_of F hm (F.binds (ps := ["well", "limit"]) fun _ _ _ _ _ _ us hl => match us, hl with | [_, _], _ => rfl) (okf__law_draw T g hg F)
abbrev s__law_of : Stmt := top 49
theorem sc__law_of : FnScope ["well", "some"] ["well", "some"] (defScope s__law_of) := ⟨rfl, rfl, rfl, by decide +kernel, rfl, by decide +kernel, by decide +kernel⟩
theorem okf__law_of (T : Txt P w K mg base C) (g : GG) (hg : GOk K C g) {f : Addr} {fd : FuncData} (F : Fun K "_law_of" "_law_of" (top 49) f fd) : FnOk P w K mg base (L2.CX P w) 2 f fd ["well", "some"] (spOf K g 2 (sp_of C.Wl)) := by
  have G__law_draw := ok__law_draw (base := base) T g hg
  refine fun_okD F sc__law_of rfl [] (by decide) (fun cdv A outer s H E U Ed hr => ⟨_, (dss_one (ds_ret (de_ix rfl (dv 1) (de_call G__law_draw hr (by omega) bTakes rfl (da_cons (dv 0) (da_cons (de_cb crLen rmLen T.n_len rfl (da_cons (dv 1) da_nil)) da_nil))))))⟩) ?_
  intro ds Q E hl h
  obtain ⟨a, d, xs, rfl, hW, hi, h0, h1, k⟩ := h
  cases d with
  | tup es =>
    cases hi
    simp only [mSeq, bnd, gv, DL.ret, hide, startD, asB, List.foldr_nil, List.foldr_cons, List.map_nil, List.map_cons, List.length_cons, List.length_nil, List.nil_append, List.cons_append, List.getD_cons_zero, List.getD_cons_succ, List.set_cons_zero, List.set_cons_succ, List.replicate_succ, List.replicate_zero, Nat.reduceAdd, Nat.reduceSub, m1, m2, mOrd, mGcd, mLcmD, mNeg, mDiv, mI2, mJ2, mAdd, mSub, mMul, mMulD, mMod, mIx, mTup, mLst, mCall, mLen, mEq, mNe, if_true, if_false, Bool.false_eq_true, reduceIte, ite_ap, at20, at21, at30, at31, at32, true_and, dec_true, mNext, mgName, mgTup, mgCons, mgNil, asEnum, asI, mSl, wipeD, setAll, startC]
    exact ⟨a, _, rfl, hW, by omega, by omega, fun r r0 r1 => ix_items (d := .tup _) (E := E) rfl r0 r1 k⟩
  | lst es =>
    cases hi
    simp only [mSeq, bnd, gv, DL.ret, hide, startD, asB, List.foldr_nil, List.foldr_cons, List.map_nil, List.map_cons, List.length_cons, List.length_nil, List.nil_append, List.cons_append, List.getD_cons_zero, List.getD_cons_succ, List.set_cons_zero, List.set_cons_succ, List.replicate_succ, List.replicate_zero, Nat.reduceAdd, Nat.reduceSub, m1, m2, mOrd, mGcd, mLcmD, mNeg, mDiv, mI2, mJ2, mAdd, mSub, mMul, mMulD, mMod, mIx, mTup, mLst, mCall, mLen, mEq, mNe, if_true, if_false, Bool.false_eq_true, reduceIte, ite_ap, at20, at21, at30, at31, at32, true_and, dec_true, mNext, mgName, mgTup, mgCons, mgNil, asEnum, asI, mSl, wipeD, setAll, startC]
    exact ⟨a, _, rfl, hW, by omega, by omega, fun r r0 r1 => ix_items (d := .lst _) (E := E) rfl r0 r1 k⟩
  | str x =>
    have hi' : (if x.length ≤ 1000 then some (DL.signs x) else none) = some xs := hi
    by_cases hx : x.length ≤ 1000
    · rw [if_pos hx] at hi'
      cases hi'
      have e : (DL.signs x).length = x.length := by unfold DL.signs; rw [List.length_map, Array.length_toList]; rfl
      rw [e] at h0 h1
      simp only [mSeq, bnd, gv, DL.ret, hide, startD, asB, List.foldr_nil, List.foldr_cons, List.map_nil, List.map_cons, List.length_cons, List.length_nil, List.nil_append, List.cons_append, List.getD_cons_zero, List.getD_cons_succ, List.set_cons_zero, List.set_cons_succ, List.replicate_succ, List.replicate_zero, Nat.reduceAdd, Nat.reduceSub, m1, m2, mOrd, mGcd, mLcmD, mNeg, mDiv, mI2, mJ2, mAdd, mSub, mMul, mMulD, mMod, mIx, mTup, mLst, mCall, mLen, mEq, mNe, if_true, if_false, Bool.false_eq_true, reduceIte, ite_ap, at20, at21, at30, at31, at32, true_and, dec_true, mNext, mgName, mgTup, mgCons, mgNil, asEnum, asI, mSl, wipeD, setAll, startC]
      refine ⟨by rw [sizeLine_eq]; omega, a, _, rfl, hW, by omega, by omega, fun r r0 r1 => ?_⟩
      exact ix_items (d := .str x) (E := E) hi r0 (by rw [e]; exact r1) k
    · rw [if_neg hx] at hi'; cases hi'
  | _ => cases hi
theorem ok__law_of (T : Txt P w K mg base C) (g : GG) (hg : GOk K C g) : GF P w K mg base g "_law_of" 2 2 (sp_of C.Wl) := by
  obtain ⟨f, fd, F, hm⟩ := T.F__law_of
  exact gf_of F hm (F.binds (ps := ["well", "some"]) fun _ _ _ _ _ _ us hl => match us, hl with | [_, _], _ => rfl) (okf__law_of T g hg F)
abbrev s__law_words : Stmt := top 52
theorem sc__law_words : FnScope ["words"] [] (defScope s__law_words) := ⟨rfl, rfl, rfl, by decide +kernel, rfl, by decide +kernel, by decide +kernel⟩
theorem okf__law_words (T : Txt P w K mg base C) (g : GG) (hg : GOk K C g) {f : Addr} {fd : FuncData} (F : Fun K "_law_words" "_law_words" (top 52) f fd) : FnOk P w K mg base (L2.CX P w) 1 f fd [] (spOf K g 0 (sp_words lawWordsS)) := by
  refine fun_okD F sc__law_words rfl [] (by decide) (fun cdv A outer s H E U Ed hr => ⟨_, (dss_cons (ds_set (i := 0) sc__law_words.nd de_str)
      (dss_one (ds_ret (de_split (de_op opAdd rmAdd (dv 0) de_str) de_str))))⟩) ?_
  intro ds Q E hl h
  obtain ⟨rfl, k⟩ := h
  simp only [mSeq, bnd, gv, DL.ret, hide, startD, asB, List.foldr_nil, List.foldr_cons, List.map_nil, List.map_cons, List.length_cons, List.length_nil, List.nil_append, List.cons_append, List.getD_cons_zero, List.getD_cons_succ, List.set_cons_zero, List.set_cons_succ, List.replicate_succ, List.replicate_zero, Nat.reduceAdd, Nat.reduceSub, m1, m2, mOrd, mGcd, mLcmD, mNeg, mDiv, mI2, mJ2, mAdd, mSub, mMul, mMulD, mMod, mIx, mTup, mLst, mCall, mLen, mEq, mNe, if_true, if_false, Bool.false_eq_true, reduceIte, ite_ap, at20, at21, at30, at31, at32, true_and, dec_true, mNext, mgName, mgTup, mgCons, mgNil, asEnum, asI, mSl, wipeD, setAll, startC, mSplit]
  refine ⟨by rw [sizeLine_eq]; decide +kernel, ⟨_, rfl⟩, by decide +kernel, by rw [sizeLine_eq]; decide +kernel, ?_⟩
  rw [show Txt.split _ _ = lawWordsS by decide +kernel]
  exact k
theorem ok__law_words (T : Txt P w K mg base C) (g : GG) (hg : GOk K C g) : GF P w K mg base g "_law_words" 0 1 (sp_words lawWordsS) := by
  obtain ⟨f, fd, F, hm⟩ := T.F__law_words
  exact gf_of F hm (F.binds (ps := []) fun _ _ _ _ _ _ us hl => match us, hl with | [], _ => rfl) (okf__law_words T g hg F)
abbrev s__law_own : Stmt := top 53
theorem sc__law_own : FnScope [] [] (defScope s__law_own) := ⟨rfl, rfl, rfl, by decide +kernel, rfl, by decide +kernel, by decide +kernel⟩
theorem okf__law_own (T : Txt P w K mg base C) (g : GG) (hg : GOk K C g) {f : Addr} {fd : FuncData} (F : Fun K "_law_own" "_law_own" (top 53) f fd) : FnOk P w K mg base (L2.CX P w) 1 f fd [] (spOf K g 0 (sp_words lawOwnS)) := by
  refine fun_okD F sc__law_own rfl [] (by decide) (fun cdv A outer s H E U Ed hr => ⟨_, (dss_one (ds_ret (de_split de_str de_str)))⟩) ?_
  intro ds Q E hl h
  obtain ⟨rfl, k⟩ := h
  simp only [mSeq, bnd, gv, DL.ret, hide, startD, asB, List.foldr_nil, List.foldr_cons, List.map_nil, List.map_cons, List.length_cons, List.length_nil, List.nil_append, List.cons_append, List.getD_cons_zero, List.getD_cons_succ, List.set_cons_zero, List.set_cons_succ, List.replicate_succ, List.replicate_zero, Nat.reduceAdd, Nat.reduceSub, m1, m2, mOrd, mGcd, mLcmD, mNeg, mDiv, mI2, mJ2, mAdd, mSub, mMul, mMulD, mMod, mIx, mTup, mLst, mCall, mLen, mEq, mNe, if_true, if_false, Bool.false_eq_true, reduceIte, ite_ap, at20, at21, at30, at31, at32, true_and, dec_true, mNext, mgName, mgTup, mgCons, mgNil, asEnum, asI, mSl, wipeD, setAll, startC, mSplit]
  refine ⟨⟨_, rfl⟩, by decide +kernel, by rw [sizeLine_eq]; decide +kernel, ?_⟩
  rw [show Txt.split _ _ = lawOwnS by decide +kernel]
  exact k
theorem ok__law_own (T : Txt P w K mg base C) (g : GG) (hg : GOk K C g) : GF P w K mg base g "_law_own" 0 1 (sp_words lawOwnS) := by
  obtain ⟨f, fd, F, hm⟩ := T.F__law_own
  exact gf_of F hm (F.binds (ps := []) fun _ _ _ _ _ _ us hl => match us, hl with | [], _ => rfl) (okf__law_own T g hg F)
abbrev s__law_names : Stmt := top 54
theorem sc__law_names : FnScope ["well", "many", "letters", "found", "turn", "name", "size", "lap", "at"] ["well", "many"] (defScope s__law_names) := ⟨rfl, rfl, rfl, by decide +kernel, rfl, by decide +kernel, by decide +kernel⟩
theorem okf__law_names (T : Txt P w K mg base C) (g : GG) (hg : GOk K C g) {f : Addr} {fd : FuncData} (F : Fun K "_law_names" "_law_names" (top 54) f fd) : FnOk P w K mg base (L2.CX P w) 3 f fd ["well", "many"] (spOf K g 2 (sp_names C.Wl)) := by
  have G__law_of := ok__law_of (base := base) T g hg
  have G__law_draw := ok__law_draw (base := base) T g hg
  have G__law_own := ok__law_own (base := base) T g hg
  have G__law_words := ok__law_words (base := base) T g hg
  refine fun_okD F sc__law_names rfl [3] (by decide) (fun cdv A outer s H E U Ed hr => ⟨_, (dss_cons (ds_par2 (i := 2) (j := 3) rfl sc__law_names.nd (dr_val de_str (dr_new (df_lst da_nil) dr_nil)))
      (dss_cons (ds_for bPass rfl (di_range1 T.n_range (da_cons (dv 1) da_nil)) (dg_name 4 sc__law_names.nd) (dss_cons (ds_par2 (i := 5) (j := 6) rfl sc__law_names.nd (dr_val de_str (dr_val (de_call G__law_of hr (by omega) bTakes rfl (da_cons (dv 0) (da_cons (de_tup (da_cons de_int (da_cons de_int (da_cons de_int (da_cons de_int (da_cons de_int (da_cons de_int da_nil))))))) da_nil))) dr_nil)))
      (dss_cons (ds_for bPass rfl (di_range1 T.n_range (da_cons (dv 6) da_nil)) (dg_name 7 sc__law_names.nd) (dss_one (ds_set (i := 5) sc__law_names.nd (de_op opAdd rmAdd (dv 5) (de_call G__law_of hr (by omega) bTakes rfl (da_cons (dv 0) (da_cons (dv 2) da_nil)))))) (fun _ => rfl))
      (dss_cons (ds_set (i := 8) sc__law_names.nd (de_call G__law_draw hr (by omega) bTakes rfl (da_cons (dv 0) (da_cons (de_op opAdd rmAdd (dv 6) de_int) da_nil))))
      (dss_cons (ds_set (i := 5) sc__law_names.nd (de_op opAdd rmAdd (de_op opAdd rmAdd (de_slice rfl (dv 5) do_none (do_some (dv 8))) (de_ix rfl (dv 2) (dv 4))) (de_slice rfl (dv 5) (do_some (dv 8)) do_none)))
      (dss_one (ds_appF (i := 3) rfl (de_if (dt_w (dw_or (dt_cmp opIn rmIn (dv 5) (dv 3)) (dw_or (dt_cmp opIn rmIn (dv 5) (de_call0 G__law_words hr (by omega) bTakes rfl)) (dw_or1 (dt_cmp opIn rmIn (dv 5) (de_call0 G__law_own hr (by omega) bTakes rfl)))))) (de_op opMulD rmMulD (de_ix rfl (dv 2) (dv 4)) de_int) (dv 5)))))))) (fun _ => rfl))
      (dss_one (ds_ret (de_ct crTup rmTup T.n_tuple rfl (da_cons (de_cb cr_sortedS rmSortS T.n_sorted rfl (da_cons (dv 3) da_nil)) da_nil))))))⟩) ?_
  intro ds Q E hl h
  obtain ⟨a, n, rfl, hW, h1, h6, k⟩ := h
  refine seqI fun N hN => ?_
  simp only [mSeq, bnd, gv, DL.ret, hide, startD, asB, List.foldr_nil, List.foldr_cons, List.map_nil, List.map_cons, List.length_cons, List.length_nil, List.nil_append, List.cons_append, List.getD_cons_zero, List.getD_cons_succ, List.set_cons_zero, List.set_cons_succ, List.replicate_succ, List.replicate_zero, Nat.reduceAdd, Nat.reduceSub, m1, m2, mOrd, mGcd, mLcmD, mNeg, mDiv, mI2, mJ2, mAdd, mSub, mMul, mMulD, mMod, mIx, mTup, mLst, mCall, mLen, mEq, mNe, if_true, if_false, Bool.false_eq_true, reduceIte, ite_ap, at20, at21, at30, at31, at32, true_and, dec_true, mNext, mgName, mgTup, mgCons, mgNil, asEnum, asI, mSl, wipeD, setAll, startC]
  refine ⟨Nat.zero_le _, hN _ (seqI fun N hN => ?_)⟩
  refine ⟨⟨by omega, by omega⟩, ?_⟩
  refine forW_ind (fun i ρ => ∃ (fs : List Str) (o1 o2 o3 o4 o5 : Option D), ρ = [some (.obj a), some (.int n), some (.str LET), some (.lst (fs.map D.str)), o1, o2, o3, o4, o5] ∧ fs.length = i ∧ Found fs) _ 0 _ ⟨[], none, none, none, none, none, rfl, rfl, Found.nil⟩ (fun i d ρ κ hie hI hk => ?_) (fun ρ hI => ?_)
  · obtain ⟨fs, o1, o2, o3, o4, o5, rfl, hfl, hf⟩ := hI
    have hi6 : i < n := by
      have := (List.getElem?_eq_some_iff.mp hie).1
      simpa [rangeD] using this
    have hd : d = .int (0 + (i : Int)) := by
      have := rangeD_get (lo := 0) hi6
      rw [show n = (n : Int).toNat by omega] at this
      rw [this] at hie
      exact (Option.some.inj hie).symm
    subst hd
    show mSeq _ _ _ _ _
    refine seqI fun N1 hN1 => ?_
    simp only [mSeq, bnd, gv, DL.ret, hide, startD, asB, List.foldr_nil, List.foldr_cons, List.map_nil, List.map_cons, List.length_cons, List.length_nil, List.nil_append, List.cons_append, List.getD_cons_zero, List.getD_cons_succ, List.set_cons_zero, List.set_cons_succ, List.replicate_succ, List.replicate_zero, Nat.reduceAdd, Nat.reduceSub, m1, m2, mOrd, mGcd, mLcmD, mNeg, mDiv, mI2, mJ2, mAdd, mSub, mMul, mMulD, mMod, mIx, mTup, mLst, mCall, mLen, mEq, mNe, if_true, if_false, Bool.false_eq_true, reduceIte, ite_ap, at20, at21, at30, at31, at32, true_and, dec_true, mNext, mgName, mgTup, mgCons, mgNil, asEnum, asI, mSl, wipeD, setAll, startC]
    refine ⟨by rw [sizeLine_eq]; decide, a, _, _, rfl, hW, rfl, by simp, by simp, fun u hu => ?_⟩
    have hu' : ∃ m : Nat, u = .int m ∧ m ≤ 7 := by
      simp only [List.mem_cons, List.not_mem_nil, or_false] at hu
      rcases hu with rfl | rfl | rfl | rfl | rfl | rfl
      · exact ⟨0, rfl, by decide⟩
      · exact ⟨0, rfl, by decide⟩
      · exact ⟨1, rfl, by decide⟩
      · exact ⟨2, rfl, by decide⟩
      · exact ⟨3, rfl, by decide⟩
      · exact ⟨7, rfl, by decide⟩
    obtain ⟨m, rfl, hm⟩ := hu'
    refine hN1 _ (seqI fun N2 hN2 => ?_)
    refine ⟨⟨by omega, by omega⟩, ?_⟩
    refine forW_ind (fun j ρ => ∃ (x : Str) (o3 : Option D), ρ = [some (.obj a), some (.int n), some (.str LET), some (.lst (fs.map D.str)), some (.int (0 + (i : Int))), some (.str x), some (.int m), o3, o5] ∧ x.length = j ∧ WordOk x) _ 0 _ ⟨"", o4, rfl, rfl, wordOk_nil⟩ (fun j d ρ κ hje hI hk => ?_) (fun ρ hI => ?_)
    · obtain ⟨x, o3', rfl, hx, hw⟩ := hI
      have hj : j < m := by
        have := (List.getElem?_eq_some_iff.mp hje).1
        simpa [rangeD] using this
      simp only [mSeq, bnd, gv, DL.ret, hide, startD, asB, List.foldr_nil, List.foldr_cons, List.map_nil, List.map_cons, List.length_cons, List.length_nil, List.nil_append, List.cons_append, List.getD_cons_zero, List.getD_cons_succ, List.set_cons_zero, List.set_cons_succ, List.replicate_succ, List.replicate_zero, Nat.reduceAdd, Nat.reduceSub, m1, m2, mOrd, mGcd, mLcmD, mNeg, mDiv, mI2, mJ2, mAdd, mSub, mMul, mMulD, mMod, mIx, mTup, mLst, mCall, mLen, mEq, mNe, if_true, if_false, Bool.false_eq_true, reduceIte, ite_ap, at20, at21, at30, at31, at32, true_and, dec_true, mNext, mgName, mgTup, mgCons, mgNil, asEnum, asI, mSl, wipeD, setAll, startC]
      refine ⟨a, _, _, rfl, hW, rfl, by decide, by decide, fun u hu => ?_⟩
      obtain ⟨y, rfl, hy, hy1⟩ := sign_ok hu
      refine ⟨by rw [sizeLine_eq]; omega, hk _ ⟨x ++ y, _, rfl, by rw [len_app]; omega, hw.app hy⟩⟩
    · obtain ⟨x, o3', rfl, hx, hw⟩ := hI
      have hx : x.length = m := by rw [hx]; simp [rangeD]
      refine hN2 _ (seqI fun N3 hN3 => ?_)
      simp only [mSeq, bnd, gv, DL.ret, hide, startD, asB, List.foldr_nil, List.foldr_cons, List.map_nil, List.map_cons, List.length_cons, List.length_nil, List.nil_append, List.cons_append, List.getD_cons_zero, List.getD_cons_succ, List.set_cons_zero, List.set_cons_succ, List.replicate_succ, List.replicate_zero, Nat.reduceAdd, Nat.reduceSub, m1, m2, mOrd, mGcd, mLcmD, mNeg, mDiv, mI2, mJ2, mAdd, mSub, mMul, mMulD, mMod, mIx, mTup, mLst, mCall, mLen, mEq, mNe, if_true, if_false, Bool.false_eq_true, reduceIte, ite_ap, at20, at21, at30, at31, at32, true_and, dec_true, mNext, mgName, mgTup, mgCons, mgNil, asEnum, asI, mSl, wipeD, setAll, startC]
      refine ⟨a, _, rfl, hW, by omega, by omega, fun r r0 r1 => hN3 _ (seqI fun N4 hN4 => ?_)⟩
      obtain ⟨r, rfl⟩ := Int.eq_ofNat_of_zero_le r0
      have hr : r ≤ x.length := by omega
      have hl : (putIn x r i).length = x.length + 1 := putIn_len i hr
      simp only [mSeq, bnd, gv, DL.ret, hide, startD, asB, List.foldr_nil, List.foldr_cons, List.map_nil, List.map_cons, List.length_cons, List.length_nil, List.nil_append, List.cons_append, List.getD_cons_zero, List.getD_cons_succ, List.set_cons_zero, List.set_cons_succ, List.replicate_succ, List.replicate_zero, Nat.reduceAdd, Nat.reduceSub, m1, m2, mOrd, mGcd, mLcmD, mNeg, mDiv, mI2, mJ2, mAdd, mSub, mMul, mMulD, mMod, mIx, mTup, mLst, mCall, mLen, mEq, mNe, if_true, if_false, Bool.false_eq_true, reduceIte, ite_ap, at20, at21, at30, at31, at32, true_and, dec_true, mNext, mgName, mgTup, mgCons, mgNil, asEnum, asI, mSl, wipeD, setAll, startC, let_at (show i < 6 by omega)]
      have hc1 : (cutS x none (some (r : Int))).length ≤ 7 := Nat.le_trans (cutS_length _ _ _) (by omega)
      have hc2 : (cutS x (some (r : Int)) none).length ≤ 7 := Nat.le_trans (cutS_length _ _ _) (by omega)
      have hs : 100 ≤ sizeLine := by rw [sizeLine_eq]; decide
      have hL : LET.length ≤ sizeLine := by rw [sizeLine_eq]; decide +kernel
      refine ⟨by omega, hL, ?_, by omega, ?_, hN4 _ ?_⟩
      · show _ + 1 ≤ _; omega
      · rw [len_app]; show _ + 1 + _ ≤ _; omega
      have hwp : WordOk (putIn x r i) := putIn_ok hr (by omega) hw
      have hfi : fs.length = i := by omega
      have fin : ∀ y, Found (fs ++ [y]) → κ [some (.obj a), some (.int n), some (.str LET), some (.lst (fs.map D.str ++ [.str y])), some (.int (0 + (i : Int))), some (.str (putIn x r i)), some (.int m), o3', some (.int r)] := fun y hy => hk _ ⟨fs ++ [y], _, _, _, _, _, by rw [List.map_append]; rfl, by rw [List.length_append, hfl]; rfl, hy⟩
      have f8 : Found (fs ++ [let8 i]) := by have := hf.new8 (by omega); rwa [hfi] at this
      simp only [mSeq, bnd, gv, DL.ret, hide, startD, asB, List.foldr_nil, List.foldr_cons, List.map_nil, List.map_cons, List.length_cons, List.length_nil, List.nil_append, List.cons_append, List.getD_cons_zero, List.getD_cons_succ, List.set_cons_zero, List.set_cons_succ, List.replicate_succ, List.replicate_zero, Nat.reduceAdd, Nat.reduceSub, m1, m2, mOrd, mGcd, mLcmD, mNeg, mDiv, mI2, mJ2, mAdd, mSub, mMul, mMulD, mMod, mIx, mTup, mLst, mCall, mLen, mEq, mNe, if_true, if_false, Bool.false_eq_true, reduceIte, ite_ap, at20, at21, at30, at31, at32, true_and, dec_true, mNext, mgName, mgTup, mgCons, mgNil, asEnum, asI, mSl, wipeD, setAll, startC, mOwn, mInB, let_at (show i < 6 by omega), all_flat_strs]
      have h8 : LET.length ≤ sizeLine ∧ (2 : Int) ≤ 8 ∧ (8 : Int) < 2 ^ 31 ∧ 0 < (let1 i).length ∧ (let1 i).length * Int.toNat 8 ≤ sizeLine ∧ (flat (D.str (let8 i)) = true ∧ (fs.map D.str).length < sizeLine) ∧ κ [some (.obj a), some (.int n), some (.str LET), some (.lst (fs.map D.str ++ [.str (let8 i)])), some (.int (0 + (i : Int))), some (.str (putIn x r i)), some (.int m), o3', some (.int r)] :=
        ⟨hL, by decide, by decide, Nat.zero_lt_one, Nat.le_trans (by show 1 * 8 ≤ 100; decide) hs, ⟨rfl, by rw [List.length_map]; omega⟩, fin _ f8⟩
      have hp0 : 0 < (putIn x r i).length := by rw [hl]; omega
      have hp8 : (putIn x r i).length ≤ 8 := by rw [hl]; omega
      refine ⟨rfl, ?_⟩
      by_cases c1 : inD (.str (putIn x r i)) (fs.map D.str) = true
      · rw [if_pos c1]; exact h8
      rw [if_neg c1]
      refine ⟨rfl, rfl, all_flat_strs, ?_⟩
      by_cases c2 : inD (.str (putIn x r i)) (lawWordsS.map D.str) = true
      · simp only [mSeq, bnd, gv, DL.ret, hide, startD, asB, List.foldr_nil, List.foldr_cons, List.map_nil, List.map_cons, List.length_cons, List.length_nil, List.nil_append, List.cons_append, List.getD_cons_zero, List.getD_cons_succ, List.set_cons_zero, List.set_cons_succ, List.replicate_succ, List.replicate_zero, Nat.reduceAdd, Nat.reduceSub, m1, m2, mOrd, mGcd, mLcmD, mNeg, mDiv, mI2, mJ2, mAdd, mSub, mMul, mMulD, mMod, mIx, mTup, mLst, mCall, mLen, mEq, mNe, if_true, if_false, Bool.false_eq_true, reduceIte, ite_ap, at20, at21, at30, at31, at32, true_and, dec_true, mNext, mgName, mgTup, mgCons, mgNil, asEnum, asI, mSl, wipeD, setAll, startC, c2]; exact h8
      have c2 : inD (.str (putIn x r i)) (lawWordsS.map D.str) = false := by simpa using c2
      simp only [mSeq, bnd, gv, DL.ret, hide, startD, asB, List.foldr_nil, List.foldr_cons, List.map_nil, List.map_cons, List.length_cons, List.length_nil, List.nil_append, List.cons_append, List.getD_cons_zero, List.getD_cons_succ, List.set_cons_zero, List.set_cons_succ, List.replicate_succ, List.replicate_zero, Nat.reduceAdd, Nat.reduceSub, m1, m2, mOrd, mGcd, mLcmD, mNeg, mDiv, mI2, mJ2, mAdd, mSub, mMul, mMulD, mMod, mIx, mTup, mLst, mCall, mLen, mEq, mNe, if_true, if_false, Bool.false_eq_true, reduceIte, ite_ap, at20, at21, at30, at31, at32, true_and, dec_true, mNext, mgName, mgTup, mgCons, mgNil, asEnum, asI, mSl, wipeD, setAll, startC, c2]
      refine ⟨rfl, rfl, all_flat_strs, ?_⟩
      by_cases c3 : inD (.str (putIn x r i)) (lawOwnS.map D.str) = true
      · simp only [mSeq, bnd, gv, DL.ret, hide, startD, asB, List.foldr_nil, List.foldr_cons, List.map_nil, List.map_cons, List.length_cons, List.length_nil, List.nil_append, List.cons_append, List.getD_cons_zero, List.getD_cons_succ, List.set_cons_zero, List.set_cons_succ, List.replicate_succ, List.replicate_zero, Nat.reduceAdd, Nat.reduceSub, m1, m2, mOrd, mGcd, mLcmD, mNeg, mDiv, mI2, mJ2, mAdd, mSub, mMul, mMulD, mMod, mIx, mTup, mLst, mCall, mLen, mEq, mNe, if_true, if_false, Bool.false_eq_true, reduceIte, ite_ap, at20, at21, at30, at31, at32, true_and, dec_true, mNext, mgName, mgTup, mgCons, mgNil, asEnum, asI, mSl, wipeD, setAll, startC, c3, let_at (show i < 6 by omega)]; exact h8
      have c3 : inD (.str (putIn x r i)) (lawOwnS.map D.str) = false := by simpa using c3
      simp only [mSeq, bnd, gv, DL.ret, hide, startD, asB, List.foldr_nil, List.foldr_cons, List.map_nil, List.map_cons, List.length_cons, List.length_nil, List.nil_append, List.cons_append, List.getD_cons_zero, List.getD_cons_succ, List.set_cons_zero, List.set_cons_succ, List.replicate_succ, List.replicate_zero, Nat.reduceAdd, Nat.reduceSub, m1, m2, mOrd, mGcd, mLcmD, mNeg, mDiv, mI2, mJ2, mAdd, mSub, mMul, mMulD, mMod, mIx, mTup, mLst, mCall, mLen, mEq, mNe, if_true, if_false, Bool.false_eq_true, reduceIte, ite_ap, at20, at21, at30, at31, at32, true_and, dec_true, mNext, mgName, mgTup, mgCons, mgNil, asEnum, asI, mSl, wipeD, setAll, startC, c3]
      refine ⟨⟨rfl, by rw [List.length_map]; omega⟩, fin _ (hf.add ⟨hwp, hp0, hp8, no_word wordsAll c2 c3⟩ (by rw [hfi]; exact putIn_mem i hr) fun hm => c1 ?_)⟩
      rw [inD_strs]
      exact decide_eq_true hm
  · obtain ⟨fs, o1, o2, o3, o4, o5, rfl, hfl, hf⟩ := hI
    refine hN _ ?_
    simp only [mSeq, bnd, gv, DL.ret, hide, startD, asB, List.foldr_nil, List.foldr_cons, List.map_nil, List.map_cons, List.length_cons, List.length_nil, List.nil_append, List.cons_append, List.getD_cons_zero, List.getD_cons_succ, List.set_cons_zero, List.set_cons_succ, List.replicate_succ, List.replicate_zero, Nat.reduceAdd, Nat.reduceSub, m1, m2, mOrd, mGcd, mLcmD, mNeg, mDiv, mI2, mJ2, mAdd, mSub, mMul, mMulD, mMod, mIx, mTup, mLst, mCall, mLen, mEq, mNe, if_true, if_false, Bool.false_eq_true, reduceIte, ite_ap, at20, at21, at30, at31, at32, true_and, dec_true, mNext, mgName, mgTup, mgCons, mgNil, asEnum, asI, mSl, wipeD, setAll, startC, mSortS, strsOf_map]
    have hfn : fs.length = n := by rw [hfl]; simp [rangeD]
    refine ⟨by omega, fun ys hp hs => ?_⟩
    exact k ys (hf.people (by omega) (by omega) hp hs) (hp.length_eq.trans hfn)
theorem ok__law_names (T : Txt P w K mg base C) (g : GG) (hg : GOk K C g) : GF P w K mg base g "_law_names" 2 3 (sp_names C.Wl) := by
  obtain ⟨f, fd, F, hm⟩ := T.F__law_names
  exact gf_of F hm (F.binds (ps := ["well", "many"]) fun _ _ _ _ _ _ us hl => match us, hl with | [_, _], _ => rfl) (okf__law_names T g hg F)
abbrev s__law_even : Stmt := top 66
theorem sc__law_even : FnScope ["claims", "money", "left", "found", "order", "lap", "least", "k", "share"] ["claims", "money"] (defScope s__law_even) := ⟨rfl, rfl, rfl, by decide +kernel, rfl, by decide +kernel, by decide +kernel⟩
theorem okf__law_even (T : Txt P w K mg base C) (g : GG) (hg : GOk K C g) {f : Addr} {fd : FuncData} (F : Fun K "_law_even" "_law_even" (top 66) f fd) : FnOk P w K mg base (L2.CX P w) 5 f fd ["claims", "money"] (spOf K g 2 sp_laweven) := by
  have G__law_below := ok__law_below (base := base) T g hg
  have G__law_by := ok__law_by (base := base) T g hg
  have G__law_minus := ok__law_minus (base := base) T g hg
  refine fun_okD F sc__law_even rfl [3] (by decide) (fun cdv A outer s H E U Ed hr => ⟨_, (dss_cons (ds_tup2 2 3 rfl rfl sc__law_even.nd (dr_val (dv 1) (dr_new df_dnew dr_nil)))
      (dss_cons (ds_set (i := 4) sc__law_even.nd (DF.de (df_listRg rfl T.n_list T.n_range (de_cb crLen rmLen T.n_len rfl (da_cons (dv 0) da_nil)))))
      (dss_cons (ds_for bPass rfl (di_range1 T.n_range (da_cons (de_cb crLen rmLen T.n_len rfl (da_cons (dv 0) da_nil)) da_nil)) (dg_name 5 sc__law_even.nd) (dss_cons (ds_set (i := 6) sc__law_even.nd (de_ix rfl (dv 4) de_int))
      (dss_cons (ds_for bPass rfl (di_any rfl (dv 4)) (dg_name 7 sc__law_even.nd) (dss_one (ds_set (i := 6) sc__law_even.nd (de_if (dt_val (de_call G__law_below hr (by omega) bTakes rfl (da_cons (de_ix rfl (dv 0) (dv 7)) (da_cons (de_ix rfl (dv 0) (dv 6)) da_nil)))) (dv 7) (dv 6)))) (fun _ => rfl))
      (dss_cons (ds_set (i := 8) sc__law_even.nd (de_call G__law_by hr (by omega) bTakes rfl (da_cons (dv 2) (da_cons (de_tup (da_cons (de_cb crLen rmLen T.n_len rfl (da_cons (dv 4) da_nil)) (da_cons de_int da_nil))) da_nil))))
      (dss_cons (ds_dput 3 hr (de_if (dt_val (de_call G__law_below hr (by omega) bTakes rfl (da_cons (de_ix rfl (dv 0) (dv 6)) (da_cons (dv 8) da_nil)))) (de_ix rfl (dv 0) (dv 6)) (dv 8)) (dv 6))
      (dss_one (ds_par2F 2 4 rfl sc__law_even.nd (de_call G__law_minus hr (by omega) bTakes rfl (da_cons (dv 2) (da_cons (de_dget hr (dv 3) (dv 6)) da_nil))) (DF.de (df_lc rfl sc__law_even.nd (di_any rfl (dv 4)) (own := [("k", 7)]) (blk_of (N := ["claims", "money", "left", "found", "order", "lap", "least", "k", "share"]) (sc := defScope s__law_even) (by decide +kernel)) (fun s H C cl fp => (dge_name 7 sc__law_even.nd)) (fun s H C cl fp => (dts_one (dt_cmp (opNe hr) rmNe (dv 7) (dv 6)))) (fun s H C cl fp => (dv 7)) (fun _ => rfl))))))))) (fun _ => rfl))
      (dss_one (ds_ret (DF.de (df_lc rfl sc__law_even.nd (di_range1 T.n_range (da_cons (de_cb crLen rmLen T.n_len rfl (da_cons (dv 0) da_nil)) da_nil)) (own := [("k", 7)]) (blk_of (N := ["claims", "money", "left", "found", "order", "lap", "least", "k", "share"]) (sc := defScope s__law_even) (by decide +kernel)) (fun s H C cl fp => (dge_name 7 sc__law_even.nd)) (fun s H C cl fp => dts_nil) (fun s H C cl fp => (de_dget hr (dv 3) (dv 7))) (fun _ => rfl))))))))⟩) ?_
  intro ds Q E hl h
  obtain ⟨cs, m, rfl, hE, k⟩ := h
  have hn6 := hE.n6
  have hn1 := hE.n1
  have hmb := hE.mb
  have hnn : ∀ k, 0 ≤ cs.getD k 0 := fun k => by
    rw [List.getD_eq_getElem?_getD]
    cases e : cs[k]? with
    | none => exact Rat.le_refl
    | some c => exact (hE.c c (List.mem_of_getElem? e)).2.1
  refine seqI fun N hN => ?_
  simp only [mSeq, bnd, gv, DL.ret, hide, startD, asB, List.foldr_nil, List.foldr_cons, List.map_nil, List.map_cons, List.length_cons, List.length_nil, List.nil_append, List.cons_append, List.getD_cons_zero, List.getD_cons_succ, List.set_cons_zero, List.set_cons_succ, List.replicate_succ, List.replicate_zero, Nat.reduceAdd, Nat.reduceSub, m1, m2, mOrd, mGcd, mLcmD, mNeg, mDiv, mI2, mJ2, mAdd, mSub, mMul, mMulD, mMod, mIx, mTup, mLst, mCall, mLen, mEq, mNe, if_true, if_false, Bool.false_eq_true, reduceIte, ite_ap, at20, at21, at30, at31, at32, true_and, dec_true, mNext, mgName, mgTup, mgCons, mgNil, asEnum, asI, mSl, wipeD, setAll, startC]
  refine hN _ ?_
  clear hN N
  refine seqI fun N hN => ?_
  simp only [mSeq, bnd, gv, DL.ret, hide, startD, asB, List.foldr_nil, List.foldr_cons, List.map_nil, List.map_cons, List.length_cons, List.length_nil, List.nil_append, List.cons_append, List.getD_cons_zero, List.getD_cons_succ, List.set_cons_zero, List.set_cons_succ, List.replicate_succ, List.replicate_zero, Nat.reduceAdd, Nat.reduceSub, m1, m2, mOrd, mGcd, mLcmD, mNeg, mDiv, mI2, mJ2, mAdd, mSub, mMul, mMulD, mMod, mIx, mTup, mLst, mCall, mLen, mEq, mNe, if_true, if_false, Bool.false_eq_true, reduceIte, ite_ap, at20, at21, at30, at31, at32, true_and, dec_true, mNext, mgName, mgTup, mgCons, mgNil, asEnum, asI, mSl, wipeD, setAll, startC, List.length_map, rangeD0, Int.toNat_natCast]
  refine ⟨⟨by omega, by omega⟩, hN _ ?_⟩
  clear hN N
  refine seqI fun N hN => ?_
  simp only [mSeq, bnd, gv, DL.ret, hide, startD, asB, List.foldr_nil, List.foldr_cons, List.map_nil, List.map_cons, List.length_cons, List.length_nil, List.nil_append, List.cons_append, List.getD_cons_zero, List.getD_cons_succ, List.set_cons_zero, List.set_cons_succ, List.replicate_succ, List.replicate_zero, Nat.reduceAdd, Nat.reduceSub, m1, m2, mOrd, mGcd, mLcmD, mNeg, mDiv, mI2, mJ2, mAdd, mSub, mMul, mMulD, mMod, mIx, mTup, mLst, mCall, mLen, mEq, mNe, if_true, if_false, Bool.false_eq_true, reduceIte, ite_ap, at20, at21, at30, at31, at32, true_and, dec_true, mNext, mgName, mgTup, mgCons, mgNil, asEnum, asI, mSl, wipeD, setAll, startC, List.length_map]
  refine ⟨⟨by omega, by omega⟩, ?_⟩
  refine forW_ind (fun t ρ => ∃ (Pd R : List Nat) (L μ : Rat) (kvs : List (Key × D)) (o5 o6 o7 o8 : Option D), ρ = [some (.lst (cs.map rD)), some (rD m), some (rD L), some (dictD kvs), some (.lst (R.map fun (k : Nat) => D.int (k : Int))), o5, o6, o7, o8] ∧ R.length = cs.length - t ∧ LE cs m Pd R L μ ∧ (∀ k ∈ Pd, getP kvs (.inl (k : Int)) = some (rD (cap μ (cs.getD k 0)))) ∧ kvs.length ≤ t) _ 0 _ ⟨[], List.range cs.length, m, _, [], _, _, _, _, by rw [rangeD0, Int.toNat_natCast]; rfl, by rw [List.length_range]; omega, LE.start hn1 hE.m0 hE.m1 hE.hm, fun k hk => (List.not_mem_nil hk).elim, Nat.le_refl _⟩ (fun i e ρ κ hie hI hk => ?_) (fun ρ hI => ?_)
  · obtain ⟨Pd, R, L, μ, kvs, o5, o6, o7, o8, rfl, hRl, hLE, hget, hkl⟩ := hI
    obtain ⟨t, ht, rfl⟩ := rangeD_mem (List.mem_of_getElem? hie)
    have hil := (List.getElem?_eq_some_iff.mp hie).1
    rw [rangeD_len, Int.toNat_natCast] at hil
    have hR0 : 0 < R.length := by omega
    obtain ⟨hRlt, hPlt⟩ := hLE.lt
    have bdc : ∀ k, k < cs.length → Bd 60 (cs.getD k 0) := fun k hk => by
      have hm := List.mem_of_getElem? (getD_some hk)
      exact (hE.c _ hm).1.fr.bd (hE.c _ hm).2.1 (by have := (hE.c _ hm).2.2; grind)
    refine seqI fun N hN => ?_
    have e0 : R[0]? = some R[0] := List.getElem?_eq_getElem hR0
    have e00 := atI_mapN (f := fun (k : Nat) => D.int (k : Int)) e0
    simp only [mSeq, bnd, gv, DL.ret, hide, startD, asB, List.foldr_nil, List.foldr_cons, List.map_nil, List.map_cons, List.length_cons, List.length_nil, List.nil_append, List.cons_append, List.getD_cons_zero, List.getD_cons_succ, List.set_cons_zero, List.set_cons_succ, List.replicate_succ, List.replicate_zero, Nat.reduceAdd, Nat.reduceSub, m1, m2, mOrd, mGcd, mLcmD, mNeg, mDiv, mI2, mJ2, mAdd, mSub, mMul, mMulD, mMod, mIx, mTup, mLst, mCall, mLen, mEq, mNe, if_true, if_false, Bool.false_eq_true, reduceIte, ite_ap, at20, at21, at30, at31, at32, true_and, dec_true, mNext, mgName, mgTup, mgCons, mgNil, asEnum, asI, mSl, wipeD, setAll, startC]
    have e00 : atI (R.map fun (k : Nat) => D.int (k : Int)) 0 = some (.int (R[0] : Nat)) := e00
    rw [e00]
    refine hN _ ?_
    clear hN N
    refine seqI fun N hN => ?_
    simp only [mSeq, bnd, gv, DL.ret, hide, startD, asB, List.foldr_nil, List.foldr_cons, List.map_nil, List.map_cons, List.length_cons, List.length_nil, List.nil_append, List.cons_append, List.getD_cons_zero, List.getD_cons_succ, List.set_cons_zero, List.set_cons_succ, List.replicate_succ, List.replicate_zero, Nat.reduceAdd, Nat.reduceSub, m1, m2, mOrd, mGcd, mLcmD, mNeg, mDiv, mI2, mJ2, mAdd, mSub, mMul, mMulD, mMod, mIx, mTup, mLst, mCall, mLen, mEq, mNe, if_true, if_false, Bool.false_eq_true, reduceIte, ite_ap, at20, at21, at30, at31, at32, true_and, dec_true, mNext, mgName, mgTup, mgCons, mgNil, asEnum, asI, mSl, wipeD, setAll, startC, asItems]
    refine forW_ind (fun j ρ => ∃ (a : Nat) (o7 : Option D), ρ = [some (.lst (cs.map rD)), some (rD m), some (rD L), some (dictD kvs), some (.lst (R.map fun (k : Nat) => D.int (k : Int))), some (.int (0 + (t : Int))), some (.int (a : Int)), o7, o8] ∧ a ∈ R ∧ ∀ k ∈ R.take j, cs.getD a 0 ≤ cs.getD k 0) _ 0 _ ⟨R[0], o7, rfl, List.getElem_mem hR0, by simp⟩ (fun j e ρ κ2 hje hJ hk2 => ?_) (fun ρ hJ => ?_)
    · obtain ⟨a, o7, rfl, ha, hmin⟩ := hJ
      rw [List.getElem?_map] at hje
      cases ek : R[j]? with
      | none => rw [ek] at hje; cases hje
      | some b =>
        rw [ek] at hje
        cases hje
        have hb := List.mem_of_getElem? ek
        simp only [mSeq, bnd, gv, DL.ret, hide, startD, asB, List.foldr_nil, List.foldr_cons, List.map_nil, List.map_cons, List.length_cons, List.length_nil, List.nil_append, List.cons_append, List.getD_cons_zero, List.getD_cons_succ, List.set_cons_zero, List.set_cons_succ, List.replicate_succ, List.replicate_zero, Nat.reduceAdd, Nat.reduceSub, m1, m2, mOrd, mGcd, mLcmD, mNeg, mDiv, mI2, mJ2, mAdd, mSub, mMul, mMulD, mMod, mIx, mTup, mLst, mCall, mLen, mEq, mNe, if_true, if_false, Bool.false_eq_true, reduceIte, ite_ap, at20, at21, at30, at31, at32, true_and, dec_true, mNext, mgName, mgTup, mgCons, mgNil, asEnum, asI, mSl, wipeD, setAll, startC, atI_mapN (getD_some (hRlt a ha)), atI_mapN (getD_some (hRlt b hb))]
        refine ⟨_, _, rfl, (bdc b (hRlt b hb)).mono (by decide), (bdc a (hRlt a ha)).mono (by decide), trivial, ?_⟩
        show (if decide (cs.getD b 0 < cs.getD a 0) = true then _ else _)
        have htk : ∀ k, k ∈ R.take (0 + j + 1) → k ∈ R.take (0 + j) ∨ k = b := fun k hk => by
          rw [show 0 + j + 1 = j + 1 by omega, List.take_add_one, ek, Option.toList_some] at hk
          rcases List.mem_append.mp hk with hk | hk
          · exact .inl (by rw [Nat.zero_add]; exact hk)
          · exact .inr (List.mem_singleton.mp hk)
        by_cases hlt : cs.getD b 0 < cs.getD a 0
        · rw [if_pos (decide_eq_true hlt)]
          refine hk2 _ ⟨b, _, rfl, hb, fun k hk => ?_⟩
          rcases htk k hk with hk | rfl
          · have := hmin k hk
            grind
          · exact Rat.le_refl
        · rw [if_neg (by simpa using hlt)]
          refine hk2 _ ⟨a, _, rfl, ha, fun k hk => ?_⟩
          rcases htk k hk with hk | rfl
          · exact hmin k hk
          · exact Rat.not_lt.mp hlt
    · obtain ⟨a, o7, rfl, ha, hmin⟩ := hJ
      rw [Nat.zero_add, List.length_map, List.take_length] at hmin
      refine hN _ ?_
      clear hN N
      refine seqI fun N hN => ?_
      simp only [mSeq, bnd, gv, DL.ret, hide, startD, asB, List.foldr_nil, List.foldr_cons, List.map_nil, List.map_cons, List.length_cons, List.length_nil, List.nil_append, List.cons_append, List.getD_cons_zero, List.getD_cons_succ, List.set_cons_zero, List.set_cons_succ, List.replicate_succ, List.replicate_zero, Nat.reduceAdd, Nat.reduceSub, m1, m2, mOrd, mGcd, mLcmD, mNeg, mDiv, mI2, mJ2, mAdd, mSub, mMul, mMulD, mMod, mIx, mTup, mLst, mCall, mLen, mEq, mNe, if_true, if_false, Bool.false_eq_true, reduceIte, ite_ap, at20, at21, at30, at31, at32, true_and, dec_true, mNext, mgName, mgTup, mgCons, mgNil, asEnum, asI, mSl, wipeD, setAll, startC, List.length_map]
      have hne : R ≠ [] := fun e => by rw [e] at hR0; exact absurd hR0 (by decide)
      obtain ⟨hp, hsh⟩ := hLE.share hne
      have hLb := (hLE.frL hn6 hne).bd hLE.l0 (by have := hLE.lm hnn; grind)
      have hμb := (hLE.frm hn6).bd hLE.m0 (by have := hLE.ub; grind)
      refine ⟨two_le, L, ((R.length : Int) : Rat), rfl, hLb.mono (by decide), (Bd.of_int (by omega)).mono (by decide), hp, ?_⟩
      simp only [hsh]
      refine hN _ ?_
      clear hN N
      refine seqI fun N hN => ?_
      have haR := hRlt a ha
      simp only [mSeq, bnd, gv, DL.ret, hide, startD, asB, List.foldr_nil, List.foldr_cons, List.map_nil, List.map_cons, List.length_cons, List.length_nil, List.nil_append, List.cons_append, List.getD_cons_zero, List.getD_cons_succ, List.set_cons_zero, List.set_cons_succ, List.replicate_succ, List.replicate_zero, Nat.reduceAdd, Nat.reduceSub, m1, m2, mOrd, mGcd, mLcmD, mNeg, mDiv, mI2, mJ2, mAdd, mSub, mMul, mMulD, mMod, mIx, mTup, mLst, mCall, mLen, mEq, mNe, if_true, if_false, Bool.false_eq_true, reduceIte, ite_ap, at20, at21, at30, at31, at32, true_and, dec_true, mNext, mgName, mgTup, mgCons, mgNil, asEnum, asI, mSl, wipeD, setAll, startC, atI_mapN (getD_some haR)]
      refine ⟨_, _, rfl, (bdc a haR).mono (by decide), hμb.mono (by decide), trivial, ?_⟩
      have hma := List.mem_of_getElem? (getD_some haR)
      obtain ⟨μ', hLE', hpr, hcap⟩ := hLE.step ha hmin (fun k hk => (hE.c _ (List.mem_of_getElem? (getD_some (hRlt k hk)))).1) hnn
      generalize hf : (if cs.getD a 0 < μ then cs.getD a 0 else μ) = f at hLE' hcap
      have hfb : Bd 60 f := by
        rw [← hf]
        split
        · exact bdc a haR
        · exact hμb
      have go : N [some (.lst (cs.map rD)), some (rD m), some (rD L), some (dictD (putP kvs (.inl (a : Int)) (rD f))), some (.lst (R.map fun (k : Nat) => D.int (k : Int))), some (.int (0 + (t : Int))), some (.int (a : Int)), o7, some (rD μ)] := by
        refine hN _ ?_
        simp only [mSeq, bnd, gv, DL.ret, hide, startD, asB, List.foldr_nil, List.foldr_cons, List.map_nil, List.map_cons, List.length_cons, List.length_nil, List.nil_append, List.cons_append, List.getD_cons_zero, List.getD_cons_succ, List.set_cons_zero, List.set_cons_succ, List.replicate_succ, List.replicate_zero, Nat.reduceAdd, Nat.reduceSub, m1, m2, mOrd, mGcd, mLcmD, mNeg, mDiv, mI2, mJ2, mAdd, mSub, mMul, mMulD, mMod, mIx, mTup, mLst, mCall, mLen, mEq, mNe, if_true, if_false, Bool.false_eq_true, reduceIte, ite_ap, at20, at21, at30, at31, at32, true_and, dec_true, mNext, mgName, mgTup, mgCons, mgNil, asEnum, asI, mSl, wipeD, setAll, startC, mGet, dictD, keyD, zip_back, get_put, asItems]
        refine ⟨_, _, rfl, hLb.mono (by decide), hfb.mono (by decide), trivial, rfl, by rw [List.length_map, sizeLine_eq]; have := hLE.pm.length_eq; rw [List.length_append, List.length_range] at this; omega, ?_⟩
        refine lcW_filter (g := fun (k : Nat) => D.int (k : Int)) (p := fun k => decide (k ≠ a)) R [] (fun x hx k ke hk => ?_) ?_
        · simp only [mSeq, bnd, gv, DL.ret, hide, startD, asB, List.foldr_nil, List.foldr_cons, List.map_nil, List.map_cons, List.length_cons, List.length_nil, List.nil_append, List.cons_append, List.getD_cons_zero, List.getD_cons_succ, List.set_cons_zero, List.set_cons_succ, List.replicate_succ, List.replicate_zero, Nat.reduceAdd, Nat.reduceSub, m1, m2, mOrd, mGcd, mLcmD, mNeg, mDiv, mI2, mJ2, mAdd, mSub, mMul, mMulD, mMod, mIx, mTup, mLst, mCall, mLen, mEq, mNe, if_true, if_false, Bool.false_eq_true, reduceIte, ite_ap, at20, at21, at30, at31, at32, true_and, dec_true, mNext, mgName, mgTup, mgCons, mgNil, asEnum, asI, mSl, wipeD, setAll, startC]
          refine ⟨eqOk_int, ?_⟩
          have e : (!eqD (.int (x : Int)) (.int (a : Int))) = decide (x ≠ a) := by
            by_cases q : x = a
            · subst q; rw [int_eq rfl]; simp
            · rw [int_ne (by omega)]; simp [q]
          rw [e]
          exact hk _ fun e he => he
        · rw [List.nil_append]
          refine hk _ ⟨a :: Pd, _, _, μ', putP kvs (.inl (a : Int)) (rD f), _, _, _, _, rfl, ?_, hLE', fun k hk => ?_, ?_⟩
          · have h1 := hLE.pm.length_eq
            have h2 := hLE'.pm.length_eq
            rw [List.length_append, List.length_range] at h1 h2
            rw [List.length_cons] at h2
            omega
          · rw [get_put]
            by_cases e : k = a
            · subst e
              rw [if_pos rfl, hcap]
            · rw [if_neg fun q => e (by injection q with q; omega)]
              rcases List.mem_cons.mp hk with h | h
              · exact absurd h e
              · rw [hpr k h]
                exact hget k h
          · have := put_len (kvs := kvs) (k := .inl (a : Int)) (v := rD f)
            omega
      have hks : kvs.length < sizeLine := by rw [sizeLine_eq]; omega
      show (if decide (cs.getD a 0 < μ) = true then _ else _)
      by_cases hlt : cs.getD a 0 < μ
      · rw [if_pos (decide_eq_true hlt)]
        rw [if_pos hlt] at hf
        subst hf
        simp only [mSeq, bnd, gv, DL.ret, hide, startD, asB, List.foldr_nil, List.foldr_cons, List.map_nil, List.map_cons, List.length_cons, List.length_nil, List.nil_append, List.cons_append, List.getD_cons_zero, List.getD_cons_succ, List.set_cons_zero, List.set_cons_succ, List.replicate_succ, List.replicate_zero, Nat.reduceAdd, Nat.reduceSub, m1, m2, mOrd, mGcd, mLcmD, mNeg, mDiv, mI2, mJ2, mAdd, mSub, mMul, mMulD, mMod, mIx, mTup, mLst, mCall, mLen, mEq, mNe, if_true, if_false, Bool.false_eq_true, reduceIte, ite_ap, at20, at21, at30, at31, at32, true_and, dec_true, mNext, mgName, mgTup, mgCons, mgNil, asEnum, asI, mSl, wipeD, setAll, startC, mOwnK, dictD, keyD, zip_back]
        exact ⟨hks, go⟩
      · rw [if_neg (by simpa using hlt)]
        rw [if_neg hlt] at hf
        subst hf
        simp only [mSeq, bnd, gv, DL.ret, hide, startD, asB, List.foldr_nil, List.foldr_cons, List.map_nil, List.map_cons, List.length_cons, List.length_nil, List.nil_append, List.cons_append, List.getD_cons_zero, List.getD_cons_succ, List.set_cons_zero, List.set_cons_succ, List.replicate_succ, List.replicate_zero, Nat.reduceAdd, Nat.reduceSub, m1, m2, mOrd, mGcd, mLcmD, mNeg, mDiv, mI2, mJ2, mAdd, mSub, mMul, mMulD, mMod, mIx, mTup, mLst, mCall, mLen, mEq, mNe, if_true, if_false, Bool.false_eq_true, reduceIte, ite_ap, at20, at21, at30, at31, at32, true_and, dec_true, mNext, mgName, mgTup, mgCons, mgNil, asEnum, asI, mSl, wipeD, setAll, startC, mOwnK, dictD, keyD, zip_back]
        exact ⟨hks, go⟩
  · obtain ⟨Pd, R, L, μ, kvs, o5, o6, o7, o8, rfl, hRl, hLE, hget, hkl⟩ := hI
    rw [rangeD_len, Int.toNat_natCast, Nat.zero_add, Nat.sub_self] at hRl
    have hR := List.length_eq_zero_iff.mp hRl
    subst hR
    refine hN _ ?_
    clear hN N
    simp only [mSeq, bnd, gv, DL.ret, hide, startD, asB, List.foldr_nil, List.foldr_cons, List.map_nil, List.map_cons, List.length_cons, List.length_nil, List.nil_append, List.cons_append, List.getD_cons_zero, List.getD_cons_succ, List.set_cons_zero, List.set_cons_succ, List.replicate_succ, List.replicate_zero, Nat.reduceAdd, Nat.reduceSub, m1, m2, mOrd, mGcd, mLcmD, mNeg, mDiv, mI2, mJ2, mAdd, mSub, mMul, mMulD, mMod, mIx, mTup, mLst, mCall, mLen, mEq, mNe, if_true, if_false, Bool.false_eq_true, reduceIte, ite_ap, at20, at21, at30, at31, at32, true_and, dec_true, mNext, mgName, mgTup, mgCons, mgNil, asEnum, asI, mSl, wipeD, setAll, startC, List.length_map]
    refine ⟨⟨by rw [List.length_map]; omega, by rw [List.length_map]; omega⟩, by rw [rangeD_len, sizeLine_eq, Int.toNat_natCast, List.length_map]; omega, ?_⟩
    rw [rangeD0, Int.toNat_natCast, List.length_map]
    refine lcW_map (f := fun d => match d with | .int i => rD (cap μ (cs.getD i.toNat 0)) | d => d) _ _ (fun d hd κ hk => ?_) ?_
    · obtain ⟨b, hb, rfl⟩ := List.mem_map.mp hd
      have hbP : b ∈ Pd := by
        have := (hLE.pm.mem_iff (a := b)).mpr hb
        simpa using this
      simp only [mSeq, bnd, gv, DL.ret, hide, startD, asB, List.foldr_nil, List.foldr_cons, List.map_nil, List.map_cons, List.length_cons, List.length_nil, List.nil_append, List.cons_append, List.getD_cons_zero, List.getD_cons_succ, List.set_cons_zero, List.set_cons_succ, List.replicate_succ, List.replicate_zero, Nat.reduceAdd, Nat.reduceSub, m1, m2, mOrd, mGcd, mLcmD, mNeg, mDiv, mI2, mJ2, mAdd, mSub, mMul, mMulD, mMod, mIx, mTup, mLst, mCall, mLen, mEq, mNe, if_true, if_false, Bool.false_eq_true, reduceIte, ite_ap, at20, at21, at30, at31, at32, true_and, dec_true, mNext, mgName, mgTup, mgCons, mgNil, asEnum, asI, mSl, wipeD, setAll, startC, mGet, dictD, keyD, zip_back, hget b hbP]
      exact hk
    · have hev := hLE.fin
      have e : [] ++ ((List.range cs.length).map fun (k : Nat) => D.int (k : Int)).map (fun d => match d with | .int i => rD (cap μ (cs.getD i.toNat 0)) | d => d) = (cs.map (cap μ)).map rD := by
        rw [List.nil_append]
        conv => rhs; rw [← range_map cs]
        simp only [List.map_map]
        exact List.map_congr_left fun k _ => by simp only [Function.comp, Int.toNat_natCast]
      rw [e]
      refine k _ hev fun q hq => ?_
      obtain ⟨c, hc, rfl⟩ := List.mem_map.mp hq
      exact ⟨(hLE.frm hn6).cap (hE.c c hc).1.fr, cap_nn hLE.m0 (hE.c c hc).2.1⟩
theorem ok__law_even (T : Txt P w K mg base C) (g : GG) (hg : GOk K C g) : GF P w K mg base g "_law_even" 2 5 sp_laweven := by
  obtain ⟨f, fd, F, hm⟩ := T.F__law_even
  exact gf_of F hm (F.binds (ps := ["claims", "money"]) fun _ _ _ _ _ _ us hl => match us, hl with | [_, _], _ => rfl) (okf__law_even T g hg F)

end
end T1

namespace T1
open PySem PySem.Spec PyProof.Rows L2 DL LamX NdefX
section
variable {P : Program} {w : World} {K : PySem.W.Frag} {mg : Str → Option Value} {base : Heap} {C : Cons}
abbrev s_is_pair : Stmt := top 18
theorem sc_is_pair : FnScope ["value"] ["value"] (defScope s_is_pair) := ⟨rfl, rfl, rfl, by decide +kernel, rfl, by decide +kernel, by decide +kernel⟩
def sp_is_pair : FS := fun ds Q E => ∃ q : Rat, ds = [rD q] ∧ Q (.bl true)
def sp_is_fraction : FS := fun ds Q E => ∃ q : Rat, ds = [rD q] ∧ Bd 2000 q ∧ Q (.bl true)
def sp_is_award : FS := fun ds Q E => ∃ c q : Rat, ds = [rD c, rD q] ∧ Bd 2000 c ∧ Bd 2000 q ∧ 0 ≤ q ∧ q ≤ c ∧ Q (.bl true)
def sp_wrong_in_awards (C : Addr) : FS := fun ds Q E => ∃ (ns : List Str) (cs : List Int) (m : Int) (qs : List Rat), ds = [purseD C ns cs m, .tup (qs.map rD)] ∧ PurseOk ns cs m ∧ Aw cs m qs ∧ Q (.lst [])
def sp_losses_by (C : Addr) : FS := fun ds Q E => ∃ (ns : List Str) (cs : List Int) (m : Int) (qs : List Rat), ds = [purseD C ns cs m, .tup (qs.map rD)] ∧ PurseOk ns cs m ∧ Aw cs m qs ∧ Q (.tup ((lessL (rats cs) qs).map rD))
def sp_check_awards (C : Addr) : FS := fun ds Q E => ∃ (ns : List Str) (cs : List Int) (m : Int) (qs : List Rat), ds = [purseD C ns cs m, .tup (qs.map rD)] ∧ PurseOk ns cs m ∧ Aw cs m qs ∧ Q .non
theorem zip_mem2 {as bs : List Rat} {d : D} (hd : d ∈ zipD (as.map rD) (bs.map rD)) : ∃ x y, d = .tup [rD x, rD y] ∧ x ∈ as ∧ y ∈ bs := by
  unfold zipD at hd
  obtain ⟨i, hi2, e⟩ := List.getElem_of_mem hd
  rw [List.getElem_zipWith, List.getElem_map, List.getElem_map] at e
  exact ⟨_, _, e.symm, List.getElem_mem _, List.getElem_mem _⟩
theorem zip_less {as bs : List Rat} : [] ++ (zipD (as.map rD) (bs.map rD)).map (fun d => match d with | .tup [a, b] => rD (ofD a - ofD b) | d => d) = (lessL as bs).map rD := by
  rw [List.nil_append]
  unfold zipD lessL
  rw [List.map_zipWith, List.map_zipWith, List.zipWith_map]
  simp only [ofD_rD]
theorem okf_is_pair (T : Txt P w K mg base C) (g : GG) (hg : GOk K C g) {f : Addr} {fd : FuncData} (F : Fun K "is_pair" "is_pair" (top 18) f fd) : FnOk P w K mg base (L2.CX P w) 2 f fd ["value"] (spOf K g 1 sp_is_pair) := by
  have G_is_tuple_of := ok_is_tuple_of (base := base) T g hg
  refine fun_okD F sc_is_pair rfl [] (by decide) (fun cdv A outer s H E U Ed hr => ⟨_, (dss_one (ds_ret (de_call G_is_tuple_of hr (by omega) bTakes rfl (da_cons (dv 0) (da_cons de_int da_nil)))))⟩) ?_
  intro ds Q E hl h
  obtain ⟨q, rfl, k⟩ := h
  simp only [mSeq, bnd, gv, DL.ret, hide, startD, asB, List.foldr_nil, List.foldr_cons, List.map_nil, List.map_cons, List.length_cons, List.length_nil, List.nil_append, List.cons_append, List.getD_cons_zero, List.getD_cons_succ, List.set_cons_zero, List.set_cons_succ, List.replicate_succ, List.replicate_zero, Nat.reduceAdd, Nat.reduceSub, m1, m2, mOrd, mGcd, mLcmD, mNeg, mDiv, mI2, mJ2, mAdd, mSub, mMul, mMulD, mMod, mIx, mTup, mLst, mCall, mLen, mEq, mNe, if_true, if_false, Bool.false_eq_true, reduceIte, ite_ap, at20, at21, at30, at31, at32, true_and, dec_true, mNext, mgName, mgTup, mgCons, mgNil, asEnum, asI, mSl, wipeD, setAll, startC]
  refine ⟨_, 2, rfl, ?_⟩
  exact k
theorem ok_is_pair (T : Txt P w K mg base C) (g : GG) (hg : GOk K C g) : GF P w K mg base g "is_pair" 1 2 sp_is_pair := by
  obtain ⟨f, fd, F, hm⟩ := T.F_is_pair
  exact gf_of F hm (F.binds (ps := ["value"]) fun _ _ _ _ _ _ us hl => match us, hl with | [_], _ => rfl) (okf_is_pair T g hg F)
abbrev s_is_fraction : Stmt := top 25
theorem sc_is_fraction : FnScope ["value", "each"] ["value"] (defScope s_is_fraction) := ⟨rfl, rfl, rfl, by decide +kernel, rfl, by decide +kernel, by decide +kernel⟩
theorem okf_is_fraction (T : Txt P w K mg base C) (g : GG) (hg : GOk K C g) {f : Addr} {fd : FuncData} (F : Fun K "is_fraction" "is_fraction" (top 25) f fd) : FnOk P w K mg base (L2.CX P w) 3 f fd ["value"] (spOf K g 1 sp_is_fraction) := by
  have G_is_whole := ok_is_whole (base := base) T g hg
  have G_is_pair := ok_is_pair (base := base) T g hg
  refine fun_okD F sc_is_fraction rfl [] (by decide) (fun cdv A outer s H E U Ed hr => ⟨_, (dss_cons (ds_if (dt_w (dw_or (dt_not (dt_val (de_call G_is_pair hr (by omega) bTakes rfl (da_cons (dv 0) da_nil)))) (dw_or1 (dt_not (dt_val (de_cb (cr_all rfl) rmAll T.n_all rfl (da_cons (DF.de (df_lc rfl sc_is_fraction.nd (di_any rfl (dv 0)) (own := [("each", 1)]) (blk_of (N := ["value", "each"]) (sc := defScope s_is_fraction) (by decide +kernel)) (fun s H C cl fp => (dge_name 1 sc_is_fraction.nd)) (fun s H C cl fp => dts_nil) (fun s H C cl fp => (de_call G_is_whole hr (by omega) takesN rfl (da_cons (dv 1) da_nil))) (fun _ => rfl))) da_nil))))))) (dss_one (ds_ret de_bl)) dss_nil)
      (dss_one (ds_ret (de_and (de_cmp opGt rmOrd (de_ix rfl (dv 0) de_int) de_int) (de_one (de_cmp (opEq hr) rmEq (de_cbf cr_gcd rmGcd T.f_gcd (da_cons (de_ix rfl (dv 0) de_int) (da_cons (de_ix rfl (dv 0) de_int) da_nil))) de_int))))))⟩) ?_
  intro ds Q E hl h
  obtain ⟨q, rfl, hq, k⟩ := h
  refine seqI fun N hN => ?_
  simp only [mSeq, bnd, gv, DL.ret, hide, startD, asB, List.foldr_nil, List.foldr_cons, List.map_nil, List.map_cons, List.length_cons, List.length_nil, List.nil_append, List.cons_append, List.getD_cons_zero, List.getD_cons_succ, List.set_cons_zero, List.set_cons_succ, List.replicate_succ, List.replicate_zero, Nat.reduceAdd, Nat.reduceSub, m1, m2, mOrd, mGcd, mLcmD, mNeg, mDiv, mI2, mJ2, mAdd, mSub, mMul, mMulD, mMod, mIx, mTup, mLst, mCall, mLen, mEq, mNe, if_true, if_false, Bool.false_eq_true, reduceIte, ite_ap, at20, at21, at30, at31, at32, true_and, dec_true, mNext, mgName, mgTup, mgCons, mgNil, asEnum, asI, mSl, wipeD, setAll, startC]
  refine ⟨q, rfl, ?_⟩
  simp only [mSeq, bnd, gv, DL.ret, hide, startD, asB, List.foldr_nil, List.foldr_cons, List.map_nil, List.map_cons, List.length_cons, List.length_nil, List.nil_append, List.cons_append, List.getD_cons_zero, List.getD_cons_succ, List.set_cons_zero, List.set_cons_succ, List.replicate_succ, List.replicate_zero, Nat.reduceAdd, Nat.reduceSub, m1, m2, mOrd, mGcd, mLcmD, mNeg, mDiv, mI2, mJ2, mAdd, mSub, mMul, mMulD, mMod, mIx, mTup, mLst, mCall, mLen, mEq, mNe, if_true, if_false, Bool.false_eq_true, reduceIte, ite_ap, at20, at21, at30, at31, at32, true_and, dec_true, mNext, mgName, mgTup, mgCons, mgNil, asEnum, asI, mSl, wipeD, setAll, startC, asItems, Bool.not_true]
  refine ⟨two_le, lcW_map (f := fun _ => .bl true) _ _ (fun d hd κ hk => ?_) ?_⟩
  · simp only [List.mem_cons, List.not_mem_nil, or_false] at hd
    rcases hd with rfl | rfl
    · simp only [mSeq, bnd, gv, DL.ret, hide, startD, asB, List.foldr_nil, List.foldr_cons, List.map_nil, List.map_cons, List.length_cons, List.length_nil, List.nil_append, List.cons_append, List.getD_cons_zero, List.getD_cons_succ, List.set_cons_zero, List.set_cons_succ, List.replicate_succ, List.replicate_zero, Nat.reduceAdd, Nat.reduceSub, m1, m2, mOrd, mGcd, mLcmD, mNeg, mDiv, mI2, mJ2, mAdd, mSub, mMul, mMulD, mMod, mIx, mTup, mLst, mCall, mLen, mEq, mNe, if_true, if_false, Bool.false_eq_true, reduceIte, ite_ap, at20, at21, at30, at31, at32, true_and, dec_true, mNext, mgName, mgTup, mgCons, mgNil, asEnum, asI, mSl, wipeD, setAll, startC]; exact ⟨_, rfl, hk⟩
    · simp only [mSeq, bnd, gv, DL.ret, hide, startD, asB, List.foldr_nil, List.foldr_cons, List.map_nil, List.map_cons, List.length_cons, List.length_nil, List.nil_append, List.cons_append, List.getD_cons_zero, List.getD_cons_succ, List.set_cons_zero, List.set_cons_succ, List.replicate_succ, List.replicate_zero, Nat.reduceAdd, Nat.reduceSub, m1, m2, mOrd, mGcd, mLcmD, mNeg, mDiv, mI2, mJ2, mAdd, mSub, mMul, mMulD, mMod, mIx, mTup, mLst, mCall, mLen, mEq, mNe, if_true, if_false, Bool.false_eq_true, reduceIte, ite_ap, at20, at21, at30, at31, at32, true_and, dec_true, mNext, mgName, mgTup, mgCons, mgNil, asEnum, asI, mSl, wipeD, setAll, startC]; exact ⟨_, rfl, hk⟩
  show mAll (.lst (List.replicate 2 (.bl true))) _ E
  refine all_true _ _ ?_
  simp only [Bool.not_true]
  refine hN _ ?_
  have hd : (0 : Int) < q.den := by have := q.den_pos; omega
  simp only [mSeq, bnd, gv, DL.ret, hide, startD, asB, List.foldr_nil, List.foldr_cons, List.map_nil, List.map_cons, List.length_cons, List.length_nil, List.nil_append, List.cons_append, List.getD_cons_zero, List.getD_cons_succ, List.set_cons_zero, List.set_cons_succ, List.replicate_succ, List.replicate_zero, Nat.reduceAdd, Nat.reduceSub, m1, m2, mOrd, mGcd, mLcmD, mNeg, mDiv, mI2, mJ2, mAdd, mSub, mMul, mMulD, mMod, mIx, mTup, mLst, mCall, mLen, mEq, mNe, if_true, if_false, Bool.false_eq_true, reduceIte, ite_ap, at20, at21, at30, at31, at32, true_and, dec_true, mNext, mgName, mgTup, mgCons, mgNil, asEnum, asI, mSl, wipeD, setAll, startC, hd]
  rw [show Nat.gcd q.num.natAbs (q.den : Int).natAbs = 1 from q.reduced]
  exact ⟨eqOk_int, k⟩
theorem ok_is_fraction (T : Txt P w K mg base C) (g : GG) (hg : GOk K C g) : GF P w K mg base g "is_fraction" 1 3 sp_is_fraction := by
  obtain ⟨f, fd, F, hm⟩ := T.F_is_fraction
  exact gf_of F hm (F.binds (ps := ["value"]) fun _ _ _ _ _ _ us hl => match us, hl with | [_], _ => rfl) (okf_is_fraction T g hg F)
abbrev s_is_award : Stmt := top 37
theorem sc_is_award : FnScope ["claim", "value"] ["claim", "value"] (defScope s_is_award) := ⟨rfl, rfl, rfl, by decide +kernel, rfl, by decide +kernel, by decide +kernel⟩
theorem okf_is_award (T : Txt P w K mg base C) (g : GG) (hg : GOk K C g) {f : Addr} {fd : FuncData} (F : Fun K "is_award" "is_award" (top 37) f fd) : FnOk P w K mg base (L2.CX P w) 4 f fd ["claim", "value"] (spOf K g 2 sp_is_award) := by
  have G_is_less := ok_is_less (base := base) T g hg
  have G_is_fraction := ok_is_fraction (base := base) T g hg
  refine fun_okD F sc_is_award rfl [] (by decide) (fun cdv A outer s H E U Ed hr => ⟨_, (dss_one (ds_ret (de_and (de_call G_is_fraction hr (by omega) bTakes rfl (da_cons (dv 1) da_nil)) (de_and (de_cmp opGe rmOrd (de_ix rfl (dv 1) de_int) de_int) (de_one (de_not (de_call G_is_less hr (by omega) bTakes rfl (da_cons (dv 0) (da_cons (dv 1) da_nil)))))))))⟩) ?_
  intro ds Q E hl h
  obtain ⟨c, q, rfl, hc, hq, h0, hle, k⟩ := h
  simp only [mSeq, bnd, gv, DL.ret, hide, startD, asB, List.foldr_nil, List.foldr_cons, List.map_nil, List.map_cons, List.length_cons, List.length_nil, List.nil_append, List.cons_append, List.getD_cons_zero, List.getD_cons_succ, List.set_cons_zero, List.set_cons_succ, List.replicate_succ, List.replicate_zero, Nat.reduceAdd, Nat.reduceSub, m1, m2, mOrd, mGcd, mLcmD, mNeg, mDiv, mI2, mJ2, mAdd, mSub, mMul, mMulD, mMod, mIx, mTup, mLst, mCall, mLen, mEq, mNe, if_true, if_false, Bool.false_eq_true, reduceIte, ite_ap, at20, at21, at30, at31, at32, true_and, dec_true, mNext, mgName, mgTup, mgCons, mgNil, asEnum, asI, mSl, wipeD, setAll, startC]
  refine ⟨q, rfl, hq, ?_⟩
  have h0' : 0 ≤ q.num := Rat.num_nonneg.mpr h0
  simp only [mSeq, bnd, gv, DL.ret, hide, startD, asB, List.foldr_nil, List.foldr_cons, List.map_nil, List.map_cons, List.length_cons, List.length_nil, List.nil_append, List.cons_append, List.getD_cons_zero, List.getD_cons_succ, List.set_cons_zero, List.set_cons_succ, List.replicate_succ, List.replicate_zero, Nat.reduceAdd, Nat.reduceSub, m1, m2, mOrd, mGcd, mLcmD, mNeg, mDiv, mI2, mJ2, mAdd, mSub, mMul, mMulD, mMod, mIx, mTup, mLst, mCall, mLen, mEq, mNe, if_true, if_false, Bool.false_eq_true, reduceIte, ite_ap, at20, at21, at30, at31, at32, true_and, dec_true, mNext, mgName, mgTup, mgCons, mgNil, asEnum, asI, mSl, wipeD, setAll, startC, h0']
  refine ⟨c, q, rfl, hc, hq, trivial, ?_⟩
  show Q (.bl (!decide (c < q)))
  rw [decide_eq_false (Rat.not_lt.mpr hle)]
  exact k
theorem ok_is_award (T : Txt P w K mg base C) (g : GG) (hg : GOk K C g) : GF P w K mg base g "is_award" 2 4 sp_is_award := by
  obtain ⟨f, fd, F, hm⟩ := T.F_is_award
  exact gf_of F hm (F.binds (ps := ["claim", "value"]) fun _ _ _ _ _ _ us hl => match us, hl with | [_, _], _ => rfl) (okf_is_award T g hg F)
abbrev s_wrong_in_awards : Stmt := top 38
theorem sc_wrong_in_awards : FnScope ["purse", "value", "wrong", "index", "claim"] ["purse", "value"] (defScope s_wrong_in_awards) := ⟨rfl, rfl, rfl, by decide +kernel, rfl, by decide +kernel, by decide +kernel⟩
theorem okf_wrong_in_awards (T : Txt P w K mg base C) (g : GG) (hg : GOk K C g) {f : Addr} {fd : FuncData} (F : Fun K "wrong_in_awards" "wrong_in_awards" (top 38) f fd) : FnOk P w K mg base (L2.CX P w) 5 f fd ["purse", "value"] (spOf K g 2 (sp_wrong_in_awards C.Purse)) := by
  have G_claims_of := ok_claims_of (base := base) T g hg
  have G_is_award := ok_is_award (base := base) T g hg
  have G_total := ok_total (base := base) T g hg
  have G_as_fraction := ok_as_fraction (base := base) T g hg
  have P_people := pr_people (base := base) T g hg
  have P_money := pr_money (base := base) T g hg
  refine fun_okD F sc_wrong_in_awards rfl [] (by decide) (fun cdv A outer s H E U Ed hr => ⟨_, (dss_cons (ds_if (dt_w (dw_or (dt_not (dt_val (de_isi T.cs rfl T.n_isinstance (da_cons (dv 1) (da_cons (de_bltn T.n_tuple rfl) da_nil))))) (dw_or1 (dt_cmp (opNe hr) rmNe (de_cb crLen rmLen T.n_len rfl (da_cons (dv 1) da_nil)) (de_cb crLen rmLen T.n_len rfl (da_cons (de_prop P_people T.cl_Purse hr (by omega) rfl (dv 0)) da_nil)))))) (dss_one (ds_ret (de_lst (da_cons de_non da_nil)))) dss_nil)
      (dss_cons (ds_set (i := 2) sc_wrong_in_awards.nd (de_slice rfl (DF.de (df_lc rfl sc_wrong_in_awards.nd (di_enum rfl T.n_enumerate (da_cons (de_call G_claims_of hr (by omega) bTakes rfl (da_cons (dv 0) da_nil)) da_nil)) (own := [("index", 3), ("claim", 4)]) (blk_of (N := ["purse", "value", "wrong", "index", "claim"]) (sc := defScope s_wrong_in_awards) (by decide +kernel)) (fun s H C cl fp => (dge_tup (n := 2) rfl rfl (dges_cons 3 sc_wrong_in_awards.nd (dges_cons 4 sc_wrong_in_awards.nd dges_nil)))) (fun s H C cl fp => (dts_one (dt_not (dt_val (de_call G_is_award hr (by omega) takesN rfl (da_cons (dv 4) (da_cons (de_ix rfl (dv 1) (dv 3)) da_nil))))))) (fun s H C cl fp => (dv 3)) (fun _ => rfl))) do_none (do_some de_int)))
      (dss_cons (ds_if (dt_cmp (opNe hr) rmNe (dv 2) (de_lst da_nil)) (dss_one (ds_ret (dv 2))) dss_nil)
      (dss_one (ds_ret (de_if (dt_cmp (opEq hr) rmEq (de_call G_total hr (by omega) bTakes rfl (da_cons (dv 1) da_nil)) (de_call G_as_fraction hr (by omega) bTakes rfl (da_cons (de_prop P_money T.cl_Purse hr (by omega) rfl (dv 0)) da_nil))) (de_lst da_nil) (de_lst (da_cons de_non da_nil))))))))⟩) ?_
  intro ds Q E hl h
  obtain ⟨ns, cs, m, qs, rfl, hp, hA, k⟩ := h
  have hC := hp.clOk
  have h4 := hp.cl
  have h6 := hC.n6
  have hlen := hA.len
  have bdm : Bd 60 (m : Rat) := hC.even.hm.fr.bd hC.even.m0 (by have := hC.even.mb; grind)
  have bdc : ∀ c ∈ cs, Bd 2000 (c : Rat) := fun c hc => (Bd.of_int (by have := hC.c c hc; omega)).mono (by decide)
  refine seqI fun N hN => ?_
  simp only [mSeq, bnd, gv, DL.ret, hide, startD, asB, List.foldr_nil, List.foldr_cons, List.map_nil, List.map_cons, List.length_cons, List.length_nil, List.nil_append, List.cons_append, List.getD_cons_zero, List.getD_cons_succ, List.set_cons_zero, List.set_cons_succ, List.replicate_succ, List.replicate_zero, Nat.reduceAdd, Nat.reduceSub, m1, m2, mOrd, mGcd, mLcmD, mNeg, mDiv, mI2, mJ2, mAdd, mSub, mMul, mMulD, mMod, mIx, mTup, mLst, mCall, mLen, mEq, mNe, if_true, if_false, Bool.false_eq_true, reduceIte, ite_ap, at20, at21, at30, at31, at32, true_and, dec_true, mNext, mgName, mgTup, mgCons, mgNil, asEnum, asI, mSl, wipeD, setAll, startC, mIsi, tyD]
  refine ⟨by decide, ?_⟩
  rw [if_neg (by decide)]
  refine ⟨⟨_, _, rfl⟩, ns, cs, m, rfl, ?_⟩
  refine ⟨eqOk_int, ?_⟩
  rw [int_eq (by rw [List.length_map, List.length_map]; omega), if_neg (by decide)]
  refine hN _ ?_
  clear hN N
  refine seqI fun N hN => ?_
  simp only [mSeq, bnd, gv, DL.ret, hide, startD, asB, List.foldr_nil, List.foldr_cons, List.map_nil, List.map_cons, List.length_cons, List.length_nil, List.nil_append, List.cons_append, List.getD_cons_zero, List.getD_cons_succ, List.set_cons_zero, List.set_cons_succ, List.replicate_succ, List.replicate_zero, Nat.reduceAdd, Nat.reduceSub, m1, m2, mOrd, mGcd, mLcmD, mNeg, mDiv, mI2, mJ2, mAdd, mSub, mMul, mMulD, mMod, mIx, mTup, mLst, mCall, mLen, mEq, mNe, if_true, if_false, Bool.false_eq_true, reduceIte, ite_ap, at20, at21, at30, at31, at32, true_and, dec_true, mNext, mgName, mgTup, mgCons, mgNil, asEnum, asI, mSl, wipeD, setAll, startC]
  refine ⟨rfl, ns, cs, m, rfl, by omega, ?_⟩
  refine ⟨by rw [enumD_length, List.length_map, sizeLine_eq]; omega, lcW_none _ _ (fun d hd κ hk => ?_) ?_⟩
  · obtain ⟨i, hi, e⟩ := List.getElem_of_mem hd
    have hi2 : i < cs.length := by rwa [enumD_length, List.length_map] at hi
    have e1 : cs[i]? = some cs[i] := List.getElem?_eq_getElem hi2
    have e2 : qs[i]? = some qs[i] := List.getElem?_eq_getElem (by omega)
    have e3 := enumD_get 0 (cs.map fun (c : Int) => rD (c : Rat)) i (rD ((cs[i] : Int) : Rat)) (by rw [List.getElem?_map, e1]; rfl)
    rw [List.getElem?_eq_getElem hi, e] at e3
    cases e3
    have hin := hA.in_ i _ _ e1 e2
    simp only [mSeq, bnd, gv, DL.ret, hide, startD, asB, List.foldr_nil, List.foldr_cons, List.map_nil, List.map_cons, List.length_cons, List.length_nil, List.nil_append, List.cons_append, List.getD_cons_zero, List.getD_cons_succ, List.set_cons_zero, List.set_cons_succ, List.replicate_succ, List.replicate_zero, Nat.reduceAdd, Nat.reduceSub, m1, m2, mOrd, mGcd, mLcmD, mNeg, mDiv, mI2, mJ2, mAdd, mSub, mMul, mMulD, mMod, mIx, mTup, mLst, mCall, mLen, mEq, mNe, if_true, if_false, Bool.false_eq_true, reduceIte, ite_ap, at20, at21, at30, at31, at32, true_and, dec_true, mNext, mgName, mgTup, mgCons, mgNil, asEnum, asI, mSl, wipeD, setAll, startC, atI_map e2]
    exact ⟨_, _, rfl, bdc _ (List.getElem_mem _), (hA.bd _ (List.getElem_mem _)).mono (by decide), hin.1, hin.2, hk _⟩
  · show N _
    refine hN _ ?_
    clear hN N
    refine seqI fun N hN => ?_
    have ecut : cutD ([] : List D) none (some 1) = [] := rfl
    simp only [mSeq, bnd, gv, DL.ret, hide, startD, asB, List.foldr_nil, List.foldr_cons, List.map_nil, List.map_cons, List.length_cons, List.length_nil, List.nil_append, List.cons_append, List.getD_cons_zero, List.getD_cons_succ, List.set_cons_zero, List.set_cons_succ, List.replicate_succ, List.replicate_zero, Nat.reduceAdd, Nat.reduceSub, m1, m2, mOrd, mGcd, mLcmD, mNeg, mDiv, mI2, mJ2, mAdd, mSub, mMul, mMulD, mMod, mIx, mTup, mLst, mCall, mLen, mEq, mNe, if_true, if_false, Bool.false_eq_true, reduceIte, ite_ap, at20, at21, at30, at31, at32, true_and, dec_true, mNext, mgName, mgTup, mgCons, mgNil, asEnum, asI, mSl, wipeD, setAll, startC, ecut]
    refine ⟨Nat.zero_le _, eqOk_nil, ?_⟩
    rw [eqD_nil, if_neg (by decide)]
    refine hN _ ?_
    clear hN N
    simp only [mSeq, bnd, gv, DL.ret, hide, startD, asB, List.foldr_nil, List.foldr_cons, List.map_nil, List.map_cons, List.length_cons, List.length_nil, List.nil_append, List.cons_append, List.getD_cons_zero, List.getD_cons_succ, List.set_cons_zero, List.set_cons_succ, List.replicate_succ, List.replicate_zero, Nat.reduceAdd, Nat.reduceSub, m1, m2, mOrd, mGcd, mLcmD, mNeg, mDiv, mI2, mJ2, mAdd, mSub, mMul, mMulD, mMod, mIx, mTup, mLst, mCall, mLen, mEq, mNe, if_true, if_false, Bool.false_eq_true, reduceIte, ite_ap, at20, at21, at30, at31, at32, true_and, dec_true, mNext, mgName, mgTup, mgCons, mgNil, asEnum, asI, mSl, wipeD, setAll, startC]
    refine ⟨_, qs, rfl, rfl, fun q hq => (hA.bd q hq).mono (by decide), by omega, ⟨_, _, rfl⟩, ns, cs, m, rfl, m, rfl, ?_⟩
    rw [hA.sum]
    simp only [EqOk_rD, eqD_rD, decide_true, if_true, true_and]
    exact ⟨Nat.zero_le _, k⟩
theorem ok_wrong_in_awards (T : Txt P w K mg base C) (g : GG) (hg : GOk K C g) : GF P w K mg base g "wrong_in_awards" 2 5 (sp_wrong_in_awards C.Purse) := by
  obtain ⟨f, fd, F, hm⟩ := T.F_wrong_in_awards
  exact gf_of F hm (F.binds (ps := ["purse", "value"]) fun _ _ _ _ _ _ us hl => match us, hl with | [_, _], _ => rfl) (okf_wrong_in_awards T g hg F)
abbrev s_losses_by : Stmt := top 39
theorem sc_losses_by : FnScope ["purse", "awards", "claim", "award"] ["purse", "awards"] (defScope s_losses_by) := ⟨rfl, rfl, rfl, by decide +kernel, rfl, by decide +kernel, by decide +kernel⟩
theorem okf_losses_by (T : Txt P w K mg base C) (g : GG) (hg : GOk K C g) {f : Addr} {fd : FuncData} (F : Fun K "losses_by" "losses_by" (top 39) f fd) : FnOk P w K mg base (L2.CX P w) 4 f fd ["purse", "awards"] (spOf K g 2 (sp_losses_by C.Purse)) := by
  have G_claims_of := ok_claims_of (base := base) T g hg
  have G_minus := ok_minus (base := base) T g hg
  refine fun_okD F sc_losses_by rfl [] (by decide) (fun cdv A outer s H E U Ed hr => ⟨_, (dss_one (ds_ret (de_ct crTup rmTup T.n_tuple rfl (da_cons (DF.de (df_lc rfl sc_losses_by.nd (di_zip rfl T.n_zip (da_cons (de_call G_claims_of hr (by omega) bTakes rfl (da_cons (dv 0) da_nil)) (da_cons (dv 1) da_nil))) (own := [("claim", 2), ("award", 3)]) (blk_of (N := ["purse", "awards", "claim", "award"]) (sc := defScope s_losses_by) (by decide +kernel)) (fun s H C cl fp => (dge_tup (n := 2) rfl rfl (dges_cons 2 sc_losses_by.nd (dges_cons 3 sc_losses_by.nd dges_nil)))) (fun s H C cl fp => dts_nil) (fun s H C cl fp => (de_call G_minus hr (by omega) takesN rfl (da_cons (dv 2) (da_cons (dv 3) da_nil)))) (fun _ => rfl))) da_nil))))⟩) ?_
  intro ds Q E hl h
  obtain ⟨ns, cs, m, qs, rfl, hp, hA, k⟩ := h
  have hC := hp.clOk
  have h6 := hC.n6
  have hlen := hA.len
  have hE := hC.even
  have e : (cs.map fun (c : Int) => rD (c : Rat)) = (rats cs).map rD := by rw [List.map_map]; rfl
  simp only [mSeq, bnd, gv, DL.ret, hide, startD, asB, List.foldr_nil, List.foldr_cons, List.map_nil, List.map_cons, List.length_cons, List.length_nil, List.nil_append, List.cons_append, List.getD_cons_zero, List.getD_cons_succ, List.set_cons_zero, List.set_cons_succ, List.replicate_succ, List.replicate_zero, Nat.reduceAdd, Nat.reduceSub, m1, m2, mOrd, mGcd, mLcmD, mNeg, mDiv, mI2, mJ2, mAdd, mSub, mMul, mMulD, mMod, mIx, mTup, mLst, mCall, mLen, mEq, mNe, if_true, if_false, Bool.false_eq_true, reduceIte, ite_ap, at20, at21, at30, at31, at32, true_and, dec_true, mNext, mgName, mgTup, mgCons, mgNil, asEnum, asI, mSl, wipeD, setAll, startC]
  refine ⟨rfl, ns, cs, m, rfl, by omega, ?_⟩
  rw [e]
  refine ⟨by rw [sizeLine_eq]; simp [zipD]; omega, lcW_map (f := fun d => match d with | .tup [a, b] => rD (ofD a - ofD b) | d => d) _ _ (fun d hd κ hk => ?_) ?_⟩
  · obtain ⟨x, y, rfl, hx, hy⟩ := zip_mem2 hd
    simp only [ofD_rD] at hk
    simp only [mSeq, bnd, gv, DL.ret, hide, startD, asB, List.foldr_nil, List.foldr_cons, List.map_nil, List.map_cons, List.length_cons, List.length_nil, List.nil_append, List.cons_append, List.getD_cons_zero, List.getD_cons_succ, List.set_cons_zero, List.set_cons_succ, List.replicate_succ, List.replicate_zero, Nat.reduceAdd, Nat.reduceSub, m1, m2, mOrd, mGcd, mLcmD, mNeg, mDiv, mI2, mJ2, mAdd, mSub, mMul, mMulD, mMod, mIx, mTup, mLst, mCall, mLen, mEq, mNe, if_true, if_false, Bool.false_eq_true, reduceIte, ite_ap, at20, at21, at30, at31, at32, true_and, dec_true, mNext, mgName, mgTup, mgCons, mgNil, asEnum, asI, mSl, wipeD, setAll, startC]
    exact ⟨_, _, rfl, ((hE.c _ hx).1.fr.bd (hE.c _ hx).2.1 (by have := (hE.c _ hx).2.2; grind)).mono (by decide), (hA.bd _ hy).mono (by decide), trivial, hk⟩
  · rw [zip_less]
    exact k
theorem ok_losses_by (T : Txt P w K mg base C) (g : GG) (hg : GOk K C g) : GF P w K mg base g "losses_by" 2 4 (sp_losses_by C.Purse) := by
  obtain ⟨f, fd, F, hm⟩ := T.F_losses_by
  exact gf_of F hm (F.binds (ps := ["purse", "awards"]) fun _ _ _ _ _ _ us hl => match us, hl with | [_, _], _ => rfl) (okf_losses_by T g hg F)
abbrev s_check_awards : Stmt := top 44
theorem sc_check_awards : FnScope ["purse", "awards", "index"] ["purse", "awards"] (defScope s_check_awards) := ⟨rfl, rfl, rfl, by decide +kernel, rfl, by decide +kernel, by decide +kernel⟩
theorem okf_check_awards (T : Txt P w K mg base C) (g : GG) (hg : GOk K C g) {f : Addr} {fd : FuncData} (F : Fun K "check_awards" "check_awards" (top 44) f fd) : FnOk P w K mg base (L2.CX P w) 6 f fd ["purse", "awards"] (spOf K g 2 (sp_check_awards C.Purse)) := by
  have G_wrong_in_awards := ok_wrong_in_awards (base := base) T g hg
  refine fun_okD F sc_check_awards rfl [] (by decide) (fun cdv A outer s H E U Ed hr => ⟨_, (dss_one (ds_for bPass rfl (di_any rfl (de_call G_wrong_in_awards hr (by omega) bTakes rfl (da_cons (dv 0) (da_cons (dv 1) da_nil)))) (dg_name 2 sc_check_awards.nd) (dss_one ds_never) (fun _ => rfl)))⟩) ?_
  intro ds Q E hl h
  obtain ⟨ns, cs, m, qs, rfl, hp, hA, k⟩ := h
  simp only [mSeq, bnd, gv, DL.ret, hide, startD, asB, List.foldr_nil, List.foldr_cons, List.map_nil, List.map_cons, List.length_cons, List.length_nil, List.nil_append, List.cons_append, List.getD_cons_zero, List.getD_cons_succ, List.set_cons_zero, List.set_cons_succ, List.replicate_succ, List.replicate_zero, Nat.reduceAdd, Nat.reduceSub, m1, m2, mOrd, mGcd, mLcmD, mNeg, mDiv, mI2, mJ2, mAdd, mSub, mMul, mMulD, mMod, mIx, mTup, mLst, mCall, mLen, mEq, mNe, if_true, if_false, Bool.false_eq_true, reduceIte, ite_ap, at20, at21, at30, at31, at32, true_and, dec_true, mNext, mgName, mgTup, mgCons, mgNil, asEnum, asI, mSl, wipeD, setAll, startC]
  refine ⟨ns, cs, m, qs, rfl, hp, hA, ?_⟩
  exact k
theorem ok_check_awards (T : Txt P w K mg base C) (g : GG) (hg : GOk K C g) : GF P w K mg base g "check_awards" 2 6 (sp_check_awards C.Purse) := by
  obtain ⟨f, fd, F, hm⟩ := T.F_check_awards
  exact gf_of F hm (F.binds (ps := ["purse", "awards"]) fun _ _ _ _ _ _ us hl => match us, hl with | [_, _], _ => rfl) (okf_check_awards T g hg F)
abbrev s_losses_of : Stmt := top 45
theorem sc_losses_of : FnScope ["purse", "awards"] ["purse", "awards"] (defScope s_losses_of) := ⟨rfl, rfl, rfl, by decide +kernel, rfl, by decide +kernel, by decide +kernel⟩
theorem okf_losses_of (T : Txt P w K mg base C) (g : GG) (hg : GOk K C g) {f : Addr} {fd : FuncData} (F : Fun K "losses_of" "losses_of" (top 45) f fd) : FnOk P w K mg base (L2.CX P w) 7 f fd ["purse", "awards"] (spOf K g 2 (sp_losses_by C.Purse)) := by
  have G_check_purse := ok_check_purse (base := base) T g hg
  have G_check_awards := ok_check_awards (base := base) T g hg
  have G_losses_by := ok_losses_by (base := base) T g hg
  refine fun_okD F sc_losses_of rfl [] (by decide) (fun cdv A outer s H E U Ed hr => ⟨_, (dss_cons (ds_expr (de_call G_check_purse hr (by omega) bTakes rfl (da_cons (dv 0) da_nil)))
      (dss_cons (ds_expr (de_call G_check_awards hr (by omega) bTakes rfl (da_cons (dv 0) (da_cons (dv 1) da_nil))))
      (dss_one (ds_ret (de_call G_losses_by hr (by omega) bTakes rfl (da_cons (dv 0) (da_cons (dv 1) da_nil)))))))⟩) ?_
  intro ds Q E hl h
  obtain ⟨ns, cs, m, qs, rfl, hp, hA, k⟩ := h
  simp only [mSeq, bnd, gv, DL.ret, hide, startD, asB, List.foldr_nil, List.foldr_cons, List.map_nil, List.map_cons, List.length_cons, List.length_nil, List.nil_append, List.cons_append, List.getD_cons_zero, List.getD_cons_succ, List.set_cons_zero, List.set_cons_succ, List.replicate_succ, List.replicate_zero, Nat.reduceAdd, Nat.reduceSub, m1, m2, mOrd, mGcd, mLcmD, mNeg, mDiv, mI2, mJ2, mAdd, mSub, mMul, mMulD, mMod, mIx, mTup, mLst, mCall, mLen, mEq, mNe, if_true, if_false, Bool.false_eq_true, reduceIte, ite_ap, at20, at21, at30, at31, at32, true_and, dec_true, mNext, mgName, mgTup, mgCons, mgNil, asEnum, asI, mSl, wipeD, setAll, startC]
  exact ⟨_, _, rfl, ns, cs, m, qs, rfl, hp, hA, ns, cs, m, qs, rfl, hp, hA, k⟩
theorem ok_losses_of (T : Txt P w K mg base C) (g : GG) (hg : GOk K C g) : GF P w K mg base g "losses_of" 2 7 (sp_losses_by C.Purse) := by
  obtain ⟨f, fd, F, hm⟩ := T.F_losses_of
  exact gf_of F hm (F.binds (ps := ["purse", "awards"]) fun _ _ _ _ _ _ us hl => match us, hl with | [_, _], _ => rfl) (okf_losses_of T g hg F)
theorem okk_losses_of_awards_purse (T : Txt P w K mg base C) (g : GG) (hg : GOk K C g) : GFk P w K mg base g "losses_of" 2 7 ["awards", "purse"] [1, 0] (sp_losses_by C.Purse) := by
  obtain ⟨f, fd, F, hm⟩ := T.F_losses_of
  exact ⟨f, fd, ["purse", "awards"], hm, F.kp, okf_losses_of T g hg F, F.kwb fun _ _ _ _ _ _ us ws h1 h2 => match us, ws, h1, h2 with | [], [_, _], _, _ => rfl⟩

end
end T1

namespace T1
open PySem PySem.Spec PyProof.Rows L2 DL LamX NdefX
section
variable {P : Program} {w : World} {K : PySem.W.Frag} {mg : Str → Option Value} {base : Heap} {C : Cons}
abbrev s__law_purse : Stmt := top 64
theorem sc__law_purse : FnScope ["well", "many", "people", "most", "claims", "whole", "person"] ["well", "many"] (defScope s__law_purse) := ⟨rfl, rfl, rfl, by decide +kernel, rfl, by decide +kernel, by decide +kernel⟩
theorem okf__law_purse (T : Txt P w K mg base C) (g : GG) (hg : GOk K C g) {f : Addr} {fd : FuncData} (F : Fun K "_law_purse" "_law_purse" (top 64) f fd) : FnOk P w K mg base (L2.CX P w) 4 f fd ["well", "many"] (spOf K g 2 (sp_lawpurse C.Wl)) := by
  have G__law_of := ok__law_of (base := base) T g hg
  have G__law_names := ok__law_names (base := base) T g hg
  have G__law_draw := ok__law_draw (base := base) T g hg
  refine fun_okD F sc__law_purse rfl [] (by decide) (fun cdv A outer s H E U Ed hr => ⟨_, (dss_cons (ds_asg (de_tup (da_cons (de_call G__law_names hr (by omega) bTakes rfl (da_cons (dv 0) (da_cons (dv 1) da_nil))) (da_cons (de_call G__law_of hr (by omega) bTakes rfl (da_cons (dv 0) (da_cons (de_tup (da_cons de_int (da_cons de_int (da_cons de_int (da_cons de_int da_nil))))) da_nil))) da_nil))) (dg_tup (n := 2) rfl rfl (dgs_cons 2 sc__law_purse.nd (dgs_cons 3 sc__law_purse.nd dgs_nil))))
      (dss_cons (ds_set (i := 4) sc__law_purse.nd (de_ct crTup rmTup T.n_tuple rfl (da_cons (DF.de (df_lc rfl sc__law_purse.nd (di_any rfl (dv 2)) (own := [("person", 6)]) (blk_of (N := ["well", "many", "people", "most", "claims", "whole", "person"]) (sc := defScope s__law_purse) (by decide +kernel)) (fun s H C cl fp => (dge_name 6 sc__law_purse.nd)) (fun s H C cl fp => dts_nil) (fun s H C cl fp => (de_call G__law_draw hr (by omega) takesN rfl (da_cons (dv 0) (da_cons (de_op opAdd rmAdd (dv 3) de_int) da_nil)))) (fun _ => rfl))) da_nil)))
      (dss_cons (ds_if (dt_cmp (opEq hr) rmEq (de_call G__law_draw hr (by omega) bTakes rfl (da_cons (dv 0) (da_cons de_int da_nil))) de_int) (dss_one (ds_set (i := 4) sc__law_purse.nd (de_ct crTup rmTup T.n_tuple rfl (da_cons (DF.de (df_lc rfl sc__law_purse.nd (di_any rfl (dv 2)) (own := [("person", 6)]) (blk_of (N := ["well", "many", "people", "most", "claims", "whole", "person"]) (sc := defScope s__law_purse) (by decide +kernel)) (fun s H C cl fp => (dge_name 6 sc__law_purse.nd)) (fun s H C cl fp => dts_nil) (fun s H C cl fp => (de_call G__law_of hr (by omega) takesN rfl (da_cons (dv 0) (da_cons (dv 4) da_nil)))) (fun _ => rfl))) da_nil)))) dss_nil)
      (dss_cons (ds_set (i := 5) sc__law_purse.nd (de_cb (crSum rfl) rmInts T.n_sum rfl (da_cons (dv 4) da_nil)))
      (dss_one (ds_ret (de_tup (da_cons (dv 2) (da_cons (dv 4) (da_cons (de_call G__law_of hr (by omega) bTakes rfl (da_cons (dv 0) (da_cons (de_tup (da_cons de_int (da_cons (dv 5) (da_cons (de_op opDiv rmDiv (dv 5) de_int) (da_cons (de_call G__law_draw hr (by omega) bTakes rfl (da_cons (dv 0) (da_cons (de_op opAdd rmAdd (dv 5) de_int) da_nil))) (da_cons (de_call G__law_draw hr (by omega) bTakes rfl (da_cons (dv 0) (da_cons (de_op opAdd rmAdd (dv 5) de_int) da_nil))) da_nil)))))) da_nil))) da_nil))))))))))⟩) ?_
  intro ds Q E hl h
  obtain ⟨a, n, rfl, hW, h1, h6, k⟩ := h
  have hs : 100 ≤ sizeLine := by rw [sizeLine_eq]; decide
  refine seqI fun N hN => ?_
  simp only [mSeq, bnd, gv, DL.ret, hide, startD, asB, List.foldr_nil, List.foldr_cons, List.map_nil, List.map_cons, List.length_cons, List.length_nil, List.nil_append, List.cons_append, List.getD_cons_zero, List.getD_cons_succ, List.set_cons_zero, List.set_cons_succ, List.replicate_succ, List.replicate_zero, Nat.reduceAdd, Nat.reduceSub, m1, m2, mOrd, mGcd, mLcmD, mNeg, mDiv, mI2, mJ2, mAdd, mSub, mMul, mMulD, mMod, mIx, mTup, mLst, mCall, mLen, mEq, mNe, if_true, if_false, Bool.false_eq_true, reduceIte, ite_ap, at20, at21, at30, at31, at32, true_and, dec_true, mNext, mgName, mgTup, mgCons, mgNil, asEnum, asI, mSl, wipeD, setAll, startC]
  refine ⟨a, n, rfl, hW, h1, h6, fun ns hp hn => ?_⟩
  simp only [mSeq, bnd, gv, DL.ret, hide, startD, asB, List.foldr_nil, List.foldr_cons, List.map_nil, List.map_cons, List.length_cons, List.length_nil, List.nil_append, List.cons_append, List.getD_cons_zero, List.getD_cons_succ, List.set_cons_zero, List.set_cons_succ, List.replicate_succ, List.replicate_zero, Nat.reduceAdd, Nat.reduceSub, m1, m2, mOrd, mGcd, mLcmD, mNeg, mDiv, mI2, mJ2, mAdd, mSub, mMul, mMulD, mMod, mIx, mTup, mLst, mCall, mLen, mEq, mNe, if_true, if_false, Bool.false_eq_true, reduceIte, ite_ap, at20, at21, at30, at31, at32, true_and, dec_true, mNext, mgName, mgTup, mgCons, mgNil, asEnum, asI, mSl, wipeD, setAll, startC]
  refine ⟨by omega, a, _, _, rfl, hW, rfl, by decide, by decide, fun u hu => ?_⟩
  have hu' : ∃ m : Int, u = .int m ∧ 1 ≤ m ∧ m ≤ 99 := by
    simp only [List.mem_cons, List.not_mem_nil, or_false] at hu
    rcases hu with rfl | rfl | rfl | rfl
    · exact ⟨1, rfl, by decide, by decide⟩
    · exact ⟨4, rfl, by decide, by decide⟩
    · exact ⟨12, rfl, by decide, by decide⟩
    · exact ⟨99, rfl, by decide, by decide⟩
  obtain ⟨most, rfl, hm1, hm2⟩ := hu'
  refine ⟨by omega, hN _ (seqI fun N1 hN1 => ?_)⟩
  simp only [mSeq, bnd, gv, DL.ret, hide, startD, asB, List.foldr_nil, List.foldr_cons, List.map_nil, List.map_cons, List.length_cons, List.length_nil, List.nil_append, List.cons_append, List.getD_cons_zero, List.getD_cons_succ, List.set_cons_zero, List.set_cons_succ, List.replicate_succ, List.replicate_zero, Nat.reduceAdd, Nat.reduceSub, m1, m2, mOrd, mGcd, mLcmD, mNeg, mDiv, mI2, mJ2, mAdd, mSub, mMul, mMulD, mMod, mIx, mTup, mLst, mCall, mLen, mEq, mNe, if_true, if_false, Bool.false_eq_true, reduceIte, ite_ap, at20, at21, at30, at31, at32, true_and, dec_true, mNext, mgName, mgTup, mgCons, mgNil, asEnum, asI, mSl, wipeD, setAll, startC, asItems]
  refine ⟨by rw [List.length_map]; omega, lcW_some (P := fun _ y => ∃ c : Int, y = .int c ∧ 0 ≤ c ∧ c ≤ 99) _ _ (fun d hd κ hk => ?_) (fun ys hyl hy => ?_)⟩
  · simp only [mSeq, bnd, gv, DL.ret, hide, startD, asB, List.foldr_nil, List.foldr_cons, List.map_nil, List.map_cons, List.length_cons, List.length_nil, List.nil_append, List.cons_append, List.getD_cons_zero, List.getD_cons_succ, List.set_cons_zero, List.set_cons_succ, List.replicate_succ, List.replicate_zero, Nat.reduceAdd, Nat.reduceSub, m1, m2, mOrd, mGcd, mLcmD, mNeg, mDiv, mI2, mJ2, mAdd, mSub, mMul, mMulD, mMod, mIx, mTup, mLst, mCall, mLen, mEq, mNe, if_true, if_false, Bool.false_eq_true, reduceIte, ite_ap, at20, at21, at30, at31, at32, true_and, dec_true, mNext, mgName, mgTup, mgCons, mgNil, asEnum, asI, mSl, wipeD, setAll, startC]
    exact ⟨a, _, rfl, hW, by omega, by omega, fun r r0 r1 => hk _ ⟨r, rfl, r0, by omega⟩⟩
  have hcs : ∃ cs : List Int, ys = cs.map D.int ∧ ∀ c ∈ cs, 0 ≤ c ∧ c ≤ 99 := ints_all fun y hy' => by
    obtain ⟨i, hi, e⟩ := List.getElem_of_mem hy'
    refine hy i _ y (List.getElem?_eq_getElem (by rw [← hyl]; exact hi)) (by rw [List.getElem?_eq_getElem hi, e])
  obtain ⟨cs, rfl, hc⟩ := hcs
  have hcl : cs.length = ns.length := by simpa using hyl
  simp only [mSeq, bnd, gv, DL.ret, hide, startD, asB, List.foldr_nil, List.foldr_cons, List.map_nil, List.map_cons, List.length_cons, List.length_nil, List.nil_append, List.cons_append, List.getD_cons_zero, List.getD_cons_succ, List.set_cons_zero, List.set_cons_succ, List.replicate_succ, List.replicate_zero, Nat.reduceAdd, Nat.reduceSub, m1, m2, mOrd, mGcd, mLcmD, mNeg, mDiv, mI2, mJ2, mAdd, mSub, mMul, mMulD, mMod, mIx, mTup, mLst, mCall, mLen, mEq, mNe, if_true, if_false, Bool.false_eq_true, reduceIte, ite_ap, at20, at21, at30, at31, at32, true_and, dec_true, mNext, mgName, mgTup, mgCons, mgNil, asEnum, asI, mSl, wipeD, setAll, startC]
  have fin : ∀ cs : List Int, cs.length = ns.length → (∀ c ∈ cs, 0 ≤ c ∧ c ≤ 99) → ∀ o : Option D, N1 [some (.obj a), some (.int n), some (.tup (ns.map D.str)), some (.int most), some (.tup (cs.map D.int)), o, none] := fun cs hcl hc o => by
    refine hN1 _ (seqI fun N2 hN2 => ?_)
    have fin2 : ∀ cs : List Int, cs.length = ns.length → (∀ c ∈ cs, 0 ≤ c ∧ c ≤ 99) → ∀ o : Option D, N2 [some (.obj a), some (.int n), some (.tup (ns.map D.str)), some (.int most), some (.tup (cs.map D.int)), o, none] := fun cs hcl hc o => by
      refine hN2 _ (seqI fun N3 hN3 => ?_)
      have hb := sum_bound hc
      have hb2 : cs.sum ≤ 600 := by omega
      simp only [mSeq, bnd, gv, DL.ret, hide, startD, asB, List.foldr_nil, List.foldr_cons, List.map_nil, List.map_cons, List.length_cons, List.length_nil, List.nil_append, List.cons_append, List.getD_cons_zero, List.getD_cons_succ, List.set_cons_zero, List.set_cons_succ, List.replicate_succ, List.replicate_zero, Nat.reduceAdd, Nat.reduceSub, m1, m2, mOrd, mGcd, mLcmD, mNeg, mDiv, mI2, mJ2, mAdd, mSub, mMul, mMulD, mMod, mIx, mTup, mLst, mCall, mLen, mEq, mNe, if_true, if_false, Bool.false_eq_true, reduceIte, ite_ap, at20, at21, at30, at31, at32, true_and, dec_true, mNext, mgName, mgTup, mgCons, mgNil, asEnum, asI, mSl, wipeD, setAll, startC, mInts_tup]
      refine fun s hs => hN3 _ ?_
      simp only [mSeq, bnd, gv, DL.ret, hide, startD, asB, List.foldr_nil, List.foldr_cons, List.map_nil, List.map_cons, List.length_cons, List.length_nil, List.nil_append, List.cons_append, List.getD_cons_zero, List.getD_cons_succ, List.set_cons_zero, List.set_cons_succ, List.replicate_succ, List.replicate_zero, Nat.reduceAdd, Nat.reduceSub, m1, m2, mOrd, mGcd, mLcmD, mNeg, mDiv, mI2, mJ2, mAdd, mSub, mMul, mMulD, mMod, mIx, mTup, mLst, mCall, mLen, mEq, mNe, if_true, if_false, Bool.false_eq_true, reduceIte, ite_ap, at20, at21, at30, at31, at32, true_and, dec_true, mNext, mgName, mgTup, mgCons, mgNil, asEnum, asI, mSl, wipeD, setAll, startC, mDiv]
      subst hs
      have fin3 : ∀ m : Int, 0 ≤ m → m ≤ cs.sum → Q (partsD ns cs m) := fun m h0 h1 => k ns cs m ⟨hp, hcl, hc, h0, h1⟩ hn
      refine ⟨⟨by decide, by decide⟩, a, _, rfl, hW, by omega, by omega, fun r r0 r1 => ⟨a, _, rfl, hW, by omega, by omega, fun r' r0' r1' => ?_⟩⟩
      refine ⟨by omega, a, _, _, rfl, hW, rfl, (by show 0 < 5; decide), (by show 5 ≤ 100000; decide), fun u hu => ?_⟩
      refine ⟨by omega, ?_⟩
      simp only [List.mem_cons, List.not_mem_nil, or_false] at hu
      rcases hu with rfl | rfl | rfl | rfl | rfl
      · exact fin3 0 (by omega) (by omega)
      · exact fin3 _ (by omega) (by omega)
      · rw [Int.fdiv_eq_ediv_of_nonneg _ (by decide)]
        exact fin3 _ (by omega) (by omega)
      · exact fin3 _ (by omega) (by omega)
      · exact fin3 _ (by omega) (by omega)
    simp only [mSeq, bnd, gv, DL.ret, hide, startD, asB, List.foldr_nil, List.foldr_cons, List.map_nil, List.map_cons, List.length_cons, List.length_nil, List.nil_append, List.cons_append, List.getD_cons_zero, List.getD_cons_succ, List.set_cons_zero, List.set_cons_succ, List.replicate_succ, List.replicate_zero, Nat.reduceAdd, Nat.reduceSub, m1, m2, mOrd, mGcd, mLcmD, mNeg, mDiv, mI2, mJ2, mAdd, mSub, mMul, mMulD, mMod, mIx, mTup, mLst, mCall, mLen, mEq, mNe, if_true, if_false, Bool.false_eq_true, reduceIte, ite_ap, at20, at21, at30, at31, at32, true_and, dec_true, mNext, mgName, mgTup, mgCons, mgNil, asEnum, asI, mSl, wipeD, setAll, startC]
    refine ⟨a, 4, rfl, hW, by decide, by decide, fun r r0 r1 => ?_⟩
    refine ⟨eqOk_int, ?_⟩
    by_cases h0 : r = 0
    · subst h0
      rw [int_eq rfl]
      simp only [mSeq, bnd, gv, DL.ret, hide, startD, asB, List.foldr_nil, List.foldr_cons, List.map_nil, List.map_cons, List.length_cons, List.length_nil, List.nil_append, List.cons_append, List.getD_cons_zero, List.getD_cons_succ, List.set_cons_zero, List.set_cons_succ, List.replicate_succ, List.replicate_zero, Nat.reduceAdd, Nat.reduceSub, m1, m2, mOrd, mGcd, mLcmD, mNeg, mDiv, mI2, mJ2, mAdd, mSub, mMul, mMulD, mMod, mIx, mTup, mLst, mCall, mLen, mEq, mNe, if_true, if_false, Bool.false_eq_true, reduceIte, ite_ap, at20, at21, at30, at31, at32, true_and, dec_true, mNext, mgName, mgTup, mgCons, mgNil, asEnum, asI, mSl, wipeD, setAll, startC, asItems]
      refine ⟨by rw [List.length_map]; omega, lcW_some (P := fun _ y => ∃ c : Int, y = .int c ∧ 0 ≤ c ∧ c ≤ 99) _ _ (fun d hd κ hk => ?_) (fun ys hyl hy => ?_)⟩
      · simp only [mSeq, bnd, gv, DL.ret, hide, startD, asB, List.foldr_nil, List.foldr_cons, List.map_nil, List.map_cons, List.length_cons, List.length_nil, List.nil_append, List.cons_append, List.getD_cons_zero, List.getD_cons_succ, List.set_cons_zero, List.set_cons_succ, List.replicate_succ, List.replicate_zero, Nat.reduceAdd, Nat.reduceSub, m1, m2, mOrd, mGcd, mLcmD, mNeg, mDiv, mI2, mJ2, mAdd, mSub, mMul, mMulD, mMod, mIx, mTup, mLst, mCall, mLen, mEq, mNe, if_true, if_false, Bool.false_eq_true, reduceIte, ite_ap, at20, at21, at30, at31, at32, true_and, dec_true, mNext, mgName, mgTup, mgCons, mgNil, asEnum, asI, mSl, wipeD, setAll, startC]
        refine ⟨a, _, _, rfl, hW, rfl, by rw [List.length_map]; omega, by rw [List.length_map]; omega, fun u hu => hk _ ?_⟩
        obtain ⟨c, hc', rfl⟩ := List.mem_map.mp hu
        exact ⟨c, rfl, hc c hc'⟩
      have hcs : ∃ cs : List Int, ys = cs.map D.int ∧ ∀ c ∈ cs, 0 ≤ c ∧ c ≤ 99 := ints_all fun y hy' => by
        obtain ⟨i, hi, e⟩ := List.getElem_of_mem hy'
        refine hy i _ y (List.getElem?_eq_getElem (by rw [← hyl]; exact hi)) (by rw [List.getElem?_eq_getElem hi, e])
      obtain ⟨cs', rfl, hc'⟩ := hcs
      exact fin2 cs' (by simpa using hyl) hc' _
    · rw [int_ne h0]
      exact fin2 cs hcl hc _
  exact fin cs hcl hc _
theorem ok__law_purse (T : Txt P w K mg base C) (g : GG) (hg : GOk K C g) : GF P w K mg base g "_law_purse" 2 4 (sp_lawpurse C.Wl) := by
  obtain ⟨f, fd, F, hm⟩ := T.F__law_purse
  exact gf_of F hm (F.binds (ps := ["well", "many"]) fun _ _ _ _ _ _ us hl => match us, hl with | [_, _], _ => rfl) (okf__law_purse T g hg F)
abbrev s__law_made : Stmt := top 65
theorem sc__law_made : FnScope ["parts"] ["parts"] (defScope s__law_made) := ⟨rfl, rfl, rfl, by decide +kernel, rfl, by decide +kernel, by decide +kernel⟩
theorem okf__law_made (T : Txt P w K mg base C) (g : GG) (hg : GOk K C g) {f : Addr} {fd : FuncData} (F : Fun K "_law_made" "_law_made" (top 65) f fd) : FnOk P w K mg base (L2.CX P w) 13 f fd ["parts"] (spOf K g 1 (sp_made C.Purse)) := by
  have M_Purse := ok_Purse (base := base) T g hg
  refine fun_okD F sc__law_made rfl [] (by decide) (fun cdv A outer s H E U Ed hr => ⟨_, (dss_one (ds_ret (de_make M_Purse hr (by omega) bTakes rfl hg.x (da_cons (de_ix rfl (dv 0) de_int) (da_cons (de_ix rfl (dv 0) de_int) (da_cons (de_ix rfl (dv 0) de_int) da_nil))))))⟩) ?_
  intro ds Q E hl h
  obtain ⟨ns, cs, m, rfl, hp, k⟩ := h
  simp only [mSeq, bnd, gv, DL.ret, hide, startD, asB, List.foldr_nil, List.foldr_cons, List.map_nil, List.map_cons, List.length_cons, List.length_nil, List.nil_append, List.cons_append, List.getD_cons_zero, List.getD_cons_succ, List.set_cons_zero, List.set_cons_succ, List.replicate_succ, List.replicate_zero, Nat.reduceAdd, Nat.reduceSub, m1, m2, mOrd, mGcd, mLcmD, mNeg, mDiv, mI2, mJ2, mAdd, mSub, mMul, mMulD, mMod, mIx, mTup, mLst, mCall, mLen, mEq, mNe, if_true, if_false, Bool.false_eq_true, reduceIte, ite_ap, at20, at21, at30, at31, at32, true_and, dec_true, mNext, mgName, mgTup, mgCons, mgNil, asEnum, asI, mSl, wipeD, setAll, startC, mMake]
  exact ⟨ns, cs, m, rfl, hp, k⟩
theorem ok__law_made (T : Txt P w K mg base C) (g : GG) (hg : GOk K C g) : GF P w K mg base g "_law_made" 1 13 (sp_made C.Purse) := by
  obtain ⟨f, fd, F, hm⟩ := T.F__law_made
  exact gf_of F hm (F.binds (ps := ["parts"]) fun _ _ _ _ _ _ us hl => match us, hl with | [_], _ => rfl) (okf__law_made T g hg F)
abbrev s__law_dealt : Stmt := top 68
theorem sc__law_dealt : FnScope ["claims", "money", "rule", "whole", "lack", "halves", "claim", "lost"] ["claims", "money", "rule"] (defScope s__law_dealt) := ⟨rfl, rfl, rfl, by decide +kernel, rfl, by decide +kernel, by decide +kernel⟩
theorem zip_mem {as bs : List Rat} {d : D} (hd : d ∈ zipD (as.map rD) (bs.map rD)) : ∃ x y, d = .tup [rD x, rD y] ∧ x ∈ as ∧ y ∈ bs := by
  unfold zipD at hd
  obtain ⟨i, hi2, e⟩ := List.getElem_of_mem hd
  rw [List.getElem_zipWith, List.getElem_map, List.getElem_map] at e
  exact ⟨_, _, e.symm, List.getElem_mem _, List.getElem_mem _⟩
theorem okf__law_dealt (T : Txt P w K mg base C) (g : GG) (hg : GOk K C g) {f : Addr} {fd : FuncData} (F : Fun K "_law_dealt" "_law_dealt" (top 68) f fd) : FnOk P w K mg base (L2.CX P w) 6 f fd ["claims", "money", "rule"] (spOf K g 3 (sp_dealtR ["even", "losses", "halves"])) := by
  have G__law_sum := ok__law_sum (base := base) T g hg
  have G__law_minus := ok__law_minus (base := base) T g hg
  have G__law_even := ok__law_even (base := base) T g hg
  have G__law_by := ok__law_by (base := base) T g hg
  have G__law_below := ok__law_below (base := base) T g hg
  refine fun_okD F sc__law_dealt rfl [] (by decide) (fun cdv A outer s H E U Ed hr => ⟨_, (dss_cons (ds_set (i := 3) sc__law_dealt.nd (de_call G__law_sum hr (by omega) bTakes rfl (da_cons (dv 0) da_nil)))
      (dss_cons (ds_set (i := 4) sc__law_dealt.nd (de_call G__law_minus hr (by omega) bTakes rfl (da_cons (dv 3) (da_cons (dv 1) da_nil))))
      (dss_cons (ds_if (dt_cmp (opEq hr) rmEq (dv 2) de_str) (dss_one (ds_ret (de_call G__law_even hr (by omega) bTakes rfl (da_cons (dv 0) (da_cons (dv 1) da_nil))))) dss_nil)
      (dss_cons (ds_if (dt_cmp (opEq hr) rmEq (dv 2) de_str) (dss_one (ds_ret (DF.de (df_lc rfl sc__law_dealt.nd (di_zip rfl T.n_zip (da_cons (dv 0) (da_cons (de_call G__law_even hr (by omega) bTakes rfl (da_cons (dv 0) (da_cons (dv 4) da_nil))) da_nil))) (own := [("claim", 6), ("lost", 7)]) (blk_of (N := ["claims", "money", "rule", "whole", "lack", "halves", "claim", "lost"]) (sc := defScope s__law_dealt) (by decide +kernel)) (fun s H C cl fp => (dge_tup (n := 2) rfl rfl (dges_cons 6 sc__law_dealt.nd (dges_cons 7 sc__law_dealt.nd dges_nil)))) (fun s H C cl fp => dts_nil) (fun s H C cl fp => (de_call G__law_minus hr (by omega) takesN rfl (da_cons (dv 6) (da_cons (dv 7) da_nil)))) (fun _ => rfl))))) dss_nil)
      (dss_cons (ds_if (dt_cmp (opEq hr) rmEq (dv 2) de_str) (dss_one ds_never) dss_nil)
      (dss_cons (ds_if (dt_cmp (opEq hr) rmEq (dv 2) de_str) (dss_one ds_never) dss_nil)
      (dss_cons (ds_setLc (i := 5) rfl sc__law_dealt.nd (di_any rfl (dv 0)) (own := [("claim", 6)]) (blk_of (N := ["claims", "money", "rule", "whole", "lack", "halves", "claim", "lost"]) (sc := defScope s__law_dealt) (by decide +kernel)) (fun s H C cl fp => (dge_name 6 sc__law_dealt.nd)) (fun s H C cl fp => dts_nil) (fun s H C cl fp => (de_call G__law_by hr (by omega) takesN rfl (da_cons (dv 6) (da_cons (de_tup (da_cons de_int (da_cons de_int da_nil))) da_nil)))) rfl rfl rfl (by decide) (fun _ => rfl))
      (dss_cons (ds_if (dt_not (dt_val (de_call G__law_below hr (by omega) bTakes rfl (da_cons (de_call G__law_by hr (by omega) bTakes rfl (da_cons (dv 3) (da_cons (de_tup (da_cons de_int (da_cons de_int da_nil))) da_nil))) (da_cons (dv 1) da_nil))))) (dss_one (ds_ret (de_call G__law_even hr (by omega) bTakes rfl (da_cons (dv 5) (da_cons (dv 1) da_nil))))) dss_nil)
      (dss_one (ds_ret (DF.de (df_lc rfl sc__law_dealt.nd (di_zip rfl T.n_zip (da_cons (dv 0) (da_cons (de_call G__law_even hr (by omega) bTakes rfl (da_cons (dv 5) (da_cons (dv 4) da_nil))) da_nil))) (own := [("claim", 6), ("lost", 7)]) (blk_of (N := ["claims", "money", "rule", "whole", "lack", "halves", "claim", "lost"]) (sc := defScope s__law_dealt) (by decide +kernel)) (fun s H C cl fp => (dge_tup (n := 2) rfl rfl (dges_cons 6 sc__law_dealt.nd (dges_cons 7 sc__law_dealt.nd dges_nil)))) (fun s H C cl fp => dts_nil) (fun s H C cl fp => (de_call G__law_minus hr (by omega) takesN rfl (da_cons (dv 6) (da_cons (dv 7) da_nil)))) (fun _ => rfl)))))))))))))⟩) ?_
  intro ds Q E hl h
  obtain ⟨cs, m, r, rfl, hr, hC, k⟩ := h
  have hbd := rats_bd hC.c
  have hE := hC.even
  have hL := hC.lack
  have hn6 := hC.n6
  have bdc : ∀ c ∈ rats cs, Bd 60 c := fun c hc => (hE.c c hc).1.fr.bd (hE.c c hc).2.1 (by have := (hE.c c hc).2.2; grind)
  have bdm : Bd 60 (m : Rat) := hE.hm.fr.bd hE.m0 (by have := hE.mb; grind)
  have bdS : Bd 1000 (rats cs).sum := (Bd.sum hbd).mono (by rw [List.length_map]; omega)
  refine seqI fun N hN => ?_
  simp only [mSeq, bnd, gv, DL.ret, hide, startD, asB, List.foldr_nil, List.foldr_cons, List.map_nil, List.map_cons, List.length_cons, List.length_nil, List.nil_append, List.cons_append, List.getD_cons_zero, List.getD_cons_succ, List.set_cons_zero, List.set_cons_succ, List.replicate_succ, List.replicate_zero, Nat.reduceAdd, Nat.reduceSub, m1, m2, mOrd, mGcd, mLcmD, mNeg, mDiv, mI2, mJ2, mAdd, mSub, mMul, mMulD, mMod, mIx, mTup, mLst, mCall, mLen, mEq, mNe, if_true, if_false, Bool.false_eq_true, reduceIte, ite_ap, at20, at21, at30, at31, at32, true_and, dec_true, mNext, mgName, mgTup, mgCons, mgNil, asEnum, asI, mSl, wipeD, setAll, startC]
  refine ⟨_, rats cs, rfl, rfl, hbd, by rw [List.length_map]; omega, hN _ ?_⟩
  clear hN N
  refine seqI fun N hN => ?_
  simp only [mSeq, bnd, gv, DL.ret, hide, startD, asB, List.foldr_nil, List.foldr_cons, List.map_nil, List.map_cons, List.length_cons, List.length_nil, List.nil_append, List.cons_append, List.getD_cons_zero, List.getD_cons_succ, List.set_cons_zero, List.set_cons_succ, List.replicate_succ, List.replicate_zero, Nat.reduceAdd, Nat.reduceSub, m1, m2, mOrd, mGcd, mLcmD, mNeg, mDiv, mI2, mJ2, mAdd, mSub, mMul, mMulD, mMod, mIx, mTup, mLst, mCall, mLen, mEq, mNe, if_true, if_false, Bool.false_eq_true, reduceIte, ite_ap, at20, at21, at30, at31, at32, true_and, dec_true, mNext, mgName, mgTup, mgCons, mgNil, asEnum, asI, mSl, wipeD, setAll, startC]
  refine ⟨_, _, rfl, bdS.mono (by decide), bdm.mono (by decide), trivial, hN _ ?_⟩
  clear hN N
  simp only [List.mem_cons, List.not_mem_nil, or_false] at hr
  rcases hr with rfl | rfl | rfl
  · refine seqI fun N hN => ?_
    simp only [mSeq, bnd, gv, DL.ret, hide, startD, asB, List.foldr_nil, List.foldr_cons, List.map_nil, List.map_cons, List.length_cons, List.length_nil, List.nil_append, List.cons_append, List.getD_cons_zero, List.getD_cons_succ, List.set_cons_zero, List.set_cons_succ, List.replicate_succ, List.replicate_zero, Nat.reduceAdd, Nat.reduceSub, m1, m2, mOrd, mGcd, mLcmD, mNeg, mDiv, mI2, mJ2, mAdd, mSub, mMul, mMulD, mMod, mIx, mTup, mLst, mCall, mLen, mEq, mNe, if_true, if_false, Bool.false_eq_true, reduceIte, ite_ap, at20, at21, at30, at31, at32, true_and, dec_true, mNext, mgName, mgTup, mgCons, mgNil, asEnum, asI, mSl, wipeD, setAll, startC]
    refine ⟨eqOk_str, ?_⟩
    rw [str_eq rfl]
    simp only [mSeq, bnd, gv, DL.ret, hide, startD, asB, List.foldr_nil, List.foldr_cons, List.map_nil, List.map_cons, List.length_cons, List.length_nil, List.nil_append, List.cons_append, List.getD_cons_zero, List.getD_cons_succ, List.set_cons_zero, List.set_cons_succ, List.replicate_succ, List.replicate_zero, Nat.reduceAdd, Nat.reduceSub, m1, m2, mOrd, mGcd, mLcmD, mNeg, mDiv, mI2, mJ2, mAdd, mSub, mMul, mMulD, mMod, mIx, mTup, mLst, mCall, mLen, mEq, mNe, if_true, if_false, Bool.false_eq_true, reduceIte, ite_ap, at20, at21, at30, at31, at32, true_and, dec_true, mNext, mgName, mgTup, mgCons, mgNil, asEnum, asI, mSl, wipeD, setAll, startC]
    exact ⟨_, _, rfl, hE, fun qs he hr => k _ (.even he) (aw_even hC he hr)⟩
  · refine seqI fun N hN => ?_
    simp only [mSeq, bnd, gv, DL.ret, hide, startD, asB, List.foldr_nil, List.foldr_cons, List.map_nil, List.map_cons, List.length_cons, List.length_nil, List.nil_append, List.cons_append, List.getD_cons_zero, List.getD_cons_succ, List.set_cons_zero, List.set_cons_succ, List.replicate_succ, List.replicate_zero, Nat.reduceAdd, Nat.reduceSub, m1, m2, mOrd, mGcd, mLcmD, mNeg, mDiv, mI2, mJ2, mAdd, mSub, mMul, mMulD, mMod, mIx, mTup, mLst, mCall, mLen, mEq, mNe, if_true, if_false, Bool.false_eq_true, reduceIte, ite_ap, at20, at21, at30, at31, at32, true_and, dec_true, mNext, mgName, mgTup, mgCons, mgNil, asEnum, asI, mSl, wipeD, setAll, startC]
    refine ⟨eqOk_str, ?_⟩
    rw [str_ne (by decide +kernel)]
    refine hN _ ?_
    clear hN N
    refine seqI fun N hN => ?_
    simp only [mSeq, bnd, gv, DL.ret, hide, startD, asB, List.foldr_nil, List.foldr_cons, List.map_nil, List.map_cons, List.length_cons, List.length_nil, List.nil_append, List.cons_append, List.getD_cons_zero, List.getD_cons_succ, List.set_cons_zero, List.set_cons_succ, List.replicate_succ, List.replicate_zero, Nat.reduceAdd, Nat.reduceSub, m1, m2, mOrd, mGcd, mLcmD, mNeg, mDiv, mI2, mJ2, mAdd, mSub, mMul, mMulD, mMod, mIx, mTup, mLst, mCall, mLen, mEq, mNe, if_true, if_false, Bool.false_eq_true, reduceIte, ite_ap, at20, at21, at30, at31, at32, true_and, dec_true, mNext, mgName, mgTup, mgCons, mgNil, asEnum, asI, mSl, wipeD, setAll, startC]
    refine ⟨eqOk_str, ?_⟩
    rw [str_eq rfl]
    simp only [mSeq, bnd, gv, DL.ret, hide, startD, asB, List.foldr_nil, List.foldr_cons, List.map_nil, List.map_cons, List.length_cons, List.length_nil, List.nil_append, List.cons_append, List.getD_cons_zero, List.getD_cons_succ, List.set_cons_zero, List.set_cons_succ, List.replicate_succ, List.replicate_zero, Nat.reduceAdd, Nat.reduceSub, m1, m2, mOrd, mGcd, mLcmD, mNeg, mDiv, mI2, mJ2, mAdd, mSub, mMul, mMulD, mMod, mIx, mTup, mLst, mCall, mLen, mEq, mNe, if_true, if_false, Bool.false_eq_true, reduceIte, ite_ap, at20, at21, at30, at31, at32, true_and, dec_true, mNext, mgName, mgTup, mgCons, mgNil, asEnum, asI, mSl, wipeD, setAll, startC]
    refine ⟨rfl, _, _, rfl, hL, fun ls he hr => ?_⟩
    have hll := he.len
    have e : [] ++ (zipD ((rats cs).map rD) (ls.map rD)).map (fun d => match d with | .tup [a, b] => rD (ofD a - ofD b) | d => d) = (lessL (rats cs) ls).map rD := by
      rw [List.nil_append]
      unfold zipD lessL
      rw [List.map_zipWith, List.map_zipWith, List.zipWith_map]
      simp only [ofD_rD]
    refine ⟨by rw [sizeLine_eq]; simp [zipD]; omega, lcW_map (f := fun d => match d with | .tup [a, b] => rD (ofD a - ofD b) | d => d) _ _ (fun d hd κ hk => ?_) ?_⟩
    · obtain ⟨x, y, rfl, hx, hy⟩ := zip_mem hd
      simp only [ofD_rD] at hk
      simp only [mSeq, bnd, gv, DL.ret, hide, startD, asB, List.foldr_nil, List.foldr_cons, List.map_nil, List.map_cons, List.length_cons, List.length_nil, List.nil_append, List.cons_append, List.getD_cons_zero, List.getD_cons_succ, List.set_cons_zero, List.set_cons_succ, List.replicate_succ, List.replicate_zero, Nat.reduceAdd, Nat.reduceSub, m1, m2, mOrd, mGcd, mLcmD, mNeg, mDiv, mI2, mJ2, mAdd, mSub, mMul, mMulD, mMod, mIx, mTup, mLst, mCall, mLen, mEq, mNe, if_true, if_false, Bool.false_eq_true, reduceIte, ite_ap, at20, at21, at30, at31, at32, true_and, dec_true, mNext, mgName, mgTup, mgCons, mgNil, asEnum, asI, mSl, wipeD, setAll, startC]
      exact ⟨_, _, rfl, (bdc _ hx).mono (by decide), (ev_bd hL he hr _ hy).mono (by decide), trivial, hk⟩
    · rw [e]
      exact k _ (.losses he) (aw_less hC (by rw [List.length_map]) (fun i c b e1 e2 => by rw [rats_get e1] at e2; cases e2; exact Rat.le_refl) he hr)
  · refine seqI fun N hN => ?_
    simp only [mSeq, bnd, gv, DL.ret, hide, startD, asB, List.foldr_nil, List.foldr_cons, List.map_nil, List.map_cons, List.length_cons, List.length_nil, List.nil_append, List.cons_append, List.getD_cons_zero, List.getD_cons_succ, List.set_cons_zero, List.set_cons_succ, List.replicate_succ, List.replicate_zero, Nat.reduceAdd, Nat.reduceSub, m1, m2, mOrd, mGcd, mLcmD, mNeg, mDiv, mI2, mJ2, mAdd, mSub, mMul, mMulD, mMod, mIx, mTup, mLst, mCall, mLen, mEq, mNe, if_true, if_false, Bool.false_eq_true, reduceIte, ite_ap, at20, at21, at30, at31, at32, true_and, dec_true, mNext, mgName, mgTup, mgCons, mgNil, asEnum, asI, mSl, wipeD, setAll, startC]
    refine ⟨eqOk_str, ?_⟩
    rw [str_ne (by decide +kernel)]
    refine hN _ ?_
    clear hN N
    refine seqI fun N hN => ?_
    simp only [mSeq, bnd, gv, DL.ret, hide, startD, asB, List.foldr_nil, List.foldr_cons, List.map_nil, List.map_cons, List.length_cons, List.length_nil, List.nil_append, List.cons_append, List.getD_cons_zero, List.getD_cons_succ, List.set_cons_zero, List.set_cons_succ, List.replicate_succ, List.replicate_zero, Nat.reduceAdd, Nat.reduceSub, m1, m2, mOrd, mGcd, mLcmD, mNeg, mDiv, mI2, mJ2, mAdd, mSub, mMul, mMulD, mMod, mIx, mTup, mLst, mCall, mLen, mEq, mNe, if_true, if_false, Bool.false_eq_true, reduceIte, ite_ap, at20, at21, at30, at31, at32, true_and, dec_true, mNext, mgName, mgTup, mgCons, mgNil, asEnum, asI, mSl, wipeD, setAll, startC]
    refine ⟨eqOk_str, ?_⟩
    rw [str_ne (by decide +kernel)]
    refine hN _ ?_
    clear hN N
    refine seqI fun N hN => ?_
    simp only [mSeq, bnd, gv, DL.ret, hide, startD, asB, List.foldr_nil, List.foldr_cons, List.map_nil, List.map_cons, List.length_cons, List.length_nil, List.nil_append, List.cons_append, List.getD_cons_zero, List.getD_cons_succ, List.set_cons_zero, List.set_cons_succ, List.replicate_succ, List.replicate_zero, Nat.reduceAdd, Nat.reduceSub, m1, m2, mOrd, mGcd, mLcmD, mNeg, mDiv, mI2, mJ2, mAdd, mSub, mMul, mMulD, mMod, mIx, mTup, mLst, mCall, mLen, mEq, mNe, if_true, if_false, Bool.false_eq_true, reduceIte, ite_ap, at20, at21, at30, at31, at32, true_and, dec_true, mNext, mgName, mgTup, mgCons, mgNil, asEnum, asI, mSl, wipeD, setAll, startC]
    refine ⟨eqOk_str, ?_⟩
    rw [str_ne (by decide +kernel)]
    refine hN _ ?_
    clear hN N
    refine seqI fun N hN => ?_
    simp only [mSeq, bnd, gv, DL.ret, hide, startD, asB, List.foldr_nil, List.foldr_cons, List.map_nil, List.map_cons, List.length_cons, List.length_nil, List.nil_append, List.cons_append, List.getD_cons_zero, List.getD_cons_succ, List.set_cons_zero, List.set_cons_succ, List.replicate_succ, List.replicate_zero, Nat.reduceAdd, Nat.reduceSub, m1, m2, mOrd, mGcd, mLcmD, mNeg, mDiv, mI2, mJ2, mAdd, mSub, mMul, mMulD, mMod, mIx, mTup, mLst, mCall, mLen, mEq, mNe, if_true, if_false, Bool.false_eq_true, reduceIte, ite_ap, at20, at21, at30, at31, at32, true_and, dec_true, mNext, mgName, mgTup, mgCons, mgNil, asEnum, asI, mSl, wipeD, setAll, startC]
    refine ⟨eqOk_str, ?_⟩
    rw [str_ne (by decide +kernel)]
    refine hN _ ?_
    clear hN N
    refine seqI fun N hN => ?_
    simp only [mSeq, bnd, gv, DL.ret, hide, startD, asB, List.foldr_nil, List.foldr_cons, List.map_nil, List.map_cons, List.length_cons, List.length_nil, List.nil_append, List.cons_append, List.getD_cons_zero, List.getD_cons_succ, List.set_cons_zero, List.set_cons_succ, List.replicate_succ, List.replicate_zero, Nat.reduceAdd, Nat.reduceSub, m1, m2, mOrd, mGcd, mLcmD, mNeg, mDiv, mI2, mJ2, mAdd, mSub, mMul, mMulD, mMod, mIx, mTup, mLst, mCall, mLen, mEq, mNe, if_true, if_false, Bool.false_eq_true, reduceIte, ite_ap, at20, at21, at30, at31, at32, true_and, dec_true, mNext, mgName, mgTup, mgCons, mgNil, asEnum, asI, mSl, wipeD, setAll, startC, asItems]
    refine ⟨by rw [List.length_map, List.length_map, sizeLine_eq]; omega, lcW_map (f := fun d => rD (ofD d / 2)) _ _ (fun d hd κ hk => ?_) ?_⟩
    · obtain ⟨c, hc, rfl⟩ := List.mem_map.mp hd
      rw [ofD_rD] at hk
      simp only [mSeq, bnd, gv, DL.ret, hide, startD, asB, List.foldr_nil, List.foldr_cons, List.map_nil, List.map_cons, List.length_cons, List.length_nil, List.nil_append, List.cons_append, List.getD_cons_zero, List.getD_cons_succ, List.set_cons_zero, List.set_cons_succ, List.replicate_succ, List.replicate_zero, Nat.reduceAdd, Nat.reduceSub, m1, m2, mOrd, mGcd, mLcmD, mNeg, mDiv, mI2, mJ2, mAdd, mSub, mMul, mMulD, mMod, mIx, mTup, mLst, mCall, mLen, mEq, mNe, if_true, if_false, Bool.false_eq_true, reduceIte, ite_ap, at20, at21, at30, at31, at32, true_and, dec_true, mNext, mgName, mgTup, mgCons, mgNil, asEnum, asI, mSl, wipeD, setAll, startC]
      exact ⟨two_le, c, 2, rfl, (bdc c hc).mono (by decide), (show Bd 10 (2 : Rat) from ⟨by decide, by decide⟩).mono (by decide), (show (0 : Rat) < 2 by decide +kernel), hk⟩
    have e : [] ++ ((rats cs).map rD).map (fun d => rD (ofD d / 2)) = (halfL cs).map rD := by
      rw [List.nil_append, List.map_map, List.map_map, List.map_map]
      exact List.map_congr_left fun q _ => by simp only [Function.comp, ofD_rD]
    rw [e]
    refine hN _ ?_
    clear hN N
    refine seqI fun N hN => ?_
    simp only [mSeq, bnd, gv, DL.ret, hide, startD, asB, List.foldr_nil, List.foldr_cons, List.map_nil, List.map_cons, List.length_cons, List.length_nil, List.nil_append, List.cons_append, List.getD_cons_zero, List.getD_cons_succ, List.set_cons_zero, List.set_cons_succ, List.replicate_succ, List.replicate_zero, Nat.reduceAdd, Nat.reduceSub, m1, m2, mOrd, mGcd, mLcmD, mNeg, mDiv, mI2, mJ2, mAdd, mSub, mMul, mMulD, mMod, mIx, mTup, mLst, mCall, mLen, mEq, mNe, if_true, if_false, Bool.false_eq_true, reduceIte, ite_ap, at20, at21, at30, at31, at32, true_and, dec_true, mNext, mgName, mgTup, mgCons, mgNil, asEnum, asI, mSl, wipeD, setAll, startC]
    have eS : (rats cs).sum / 2 = (halfL cs).sum := by rw [halfL_sum, rats_sum]
    refine ⟨two_le, _, 2, rfl, bdS.mono (by decide), (show Bd 10 (2 : Rat) from ⟨by decide, by decide⟩).mono (by decide), (show (0 : Rat) < 2 by decide +kernel), ?_⟩
    simp only [eS]
    refine ⟨_, (m : Rat), rfl, ?_, bdm.mono (by decide), trivial, ?_⟩
    · rw [← eS]
      exact (bdS.div (by decide) (show Bd 10 (2 : Rat) from ⟨by decide, by decide⟩)).mono (by decide)
    by_cases hs : (halfL cs).sum < (m : Rat)
    · simp only [hs, decide_true, Bool.not_true, Bool.false_eq_true, if_false]
      refine hN _ ?_
      clear hN N
      simp only [mSeq, bnd, gv, DL.ret, hide, startD, asB, List.foldr_nil, List.foldr_cons, List.map_nil, List.map_cons, List.length_cons, List.length_nil, List.nil_append, List.cons_append, List.getD_cons_zero, List.getD_cons_succ, List.set_cons_zero, List.set_cons_succ, List.replicate_succ, List.replicate_zero, Nat.reduceAdd, Nat.reduceSub, m1, m2, mOrd, mGcd, mLcmD, mNeg, mDiv, mI2, mJ2, mAdd, mSub, mMul, mMulD, mMod, mIx, mTup, mLst, mCall, mLen, mEq, mNe, if_true, if_false, Bool.false_eq_true, reduceIte, ite_ap, at20, at21, at30, at31, at32, true_and, dec_true, mNext, mgName, mgTup, mgCons, mgNil, asEnum, asI, mSl, wipeD, setAll, startC]
      refine ⟨rfl, _, _, rfl, hC.half2 hs, fun ls he hr => ?_⟩
      have hll := he.len
      have e : [] ++ (zipD ((rats cs).map rD) (ls.map rD)).map (fun d => match d with | .tup [a, b] => rD (ofD a - ofD b) | d => d) = (lessL (rats cs) ls).map rD := by
        rw [List.nil_append]
        unfold zipD lessL
        rw [List.map_zipWith, List.map_zipWith, List.zipWith_map]
        simp only [ofD_rD]
      refine ⟨by rw [sizeLine_eq]; simp [zipD]; omega, lcW_map (f := fun d => match d with | .tup [a, b] => rD (ofD a - ofD b) | d => d) _ _ (fun d hd κ hk => ?_) ?_⟩
      · obtain ⟨x, y, rfl, hx, hy⟩ := zip_mem hd
        simp only [ofD_rD] at hk
        simp only [mSeq, bnd, gv, DL.ret, hide, startD, asB, List.foldr_nil, List.foldr_cons, List.map_nil, List.map_cons, List.length_cons, List.length_nil, List.nil_append, List.cons_append, List.getD_cons_zero, List.getD_cons_succ, List.set_cons_zero, List.set_cons_succ, List.replicate_succ, List.replicate_zero, Nat.reduceAdd, Nat.reduceSub, m1, m2, mOrd, mGcd, mLcmD, mNeg, mDiv, mI2, mJ2, mAdd, mSub, mMul, mMulD, mMod, mIx, mTup, mLst, mCall, mLen, mEq, mNe, if_true, if_false, Bool.false_eq_true, reduceIte, ite_ap, at20, at21, at30, at31, at32, true_and, dec_true, mNext, mgName, mgTup, mgCons, mgNil, asEnum, asI, mSl, wipeD, setAll, startC]
        exact ⟨_, _, rfl, (bdc _ hx).mono (by decide), (ev_bd (hC.half2 hs) he hr _ hy).mono (by decide), trivial, hk⟩
      · rw [e]
        exact k _ (.half2 hs he) (aw_less hC (by rw [List.length_map]) (half_get hC) he hr)
    · simp only [hs, decide_false, Bool.not_false, if_true]
      exact ⟨_, _, rfl, hC.half1 hs, fun qs he hr => k _ (.half1 hs he) (aw_half1 hC he hr)⟩
theorem ok__law_dealt (T : Txt P w K mg base C) (g : GG) (hg : GOk K C g) : GF P w K mg base g "_law_dealt" 3 6 (sp_dealtR ["even", "losses", "halves"]) := by
  obtain ⟨f, fd, F, hm⟩ := T.F__law_dealt
  exact gf_of F hm (F.binds (ps := ["claims", "money", "rule"]) fun _ _ _ _ _ _ us hl => match us, hl with | [_, _, _], _ => rfl) (okf__law_dealt T g hg F)
abbrev s__law_awards : Stmt := top 69
theorem sc__law_awards : FnScope ["parts", "rule", "claim"] ["parts", "rule"] (defScope s__law_awards) := ⟨rfl, rfl, rfl, by decide +kernel, rfl, by decide +kernel, by decide +kernel⟩
theorem okf__law_awards (T : Txt P w K mg base C) (g : GG) (hg : GOk K C g) {f : Addr} {fd : FuncData} (F : Fun K "_law_awards" "_law_awards" (top 69) f fd) : FnOk P w K mg base (L2.CX P w) 7 f fd ["parts", "rule"] (spOf K g 2 (sp_lawawardsR ["even", "losses", "halves"])) := by
  have G__law_dealt := ok__law_dealt (base := base) T g hg
  refine fun_okD F sc__law_awards rfl [] (by decide) (fun cdv A outer s H E U Ed hr => ⟨_, (dss_one (ds_ret (de_ct crTup rmTup T.n_tuple rfl (da_cons (de_call G__law_dealt hr (by omega) bTakes rfl (da_cons (DF.de (df_lc rfl sc__law_awards.nd (di_any rfl (de_ix rfl (dv 0) de_int)) (own := [("claim", 2)]) (blk_of (N := ["parts", "rule", "claim"]) (sc := defScope s__law_awards) (by decide +kernel)) (fun s H C cl fp => (dge_name 2 sc__law_awards.nd)) (fun s H C cl fp => dts_nil) (fun s H C cl fp => (de_tup (da_cons (dv 2) (da_cons de_int da_nil)))) (fun _ => rfl))) (da_cons (de_tup (da_cons (de_ix rfl (dv 0) de_int) (da_cons de_int da_nil))) (da_cons (dv 1) da_nil)))) da_nil))))⟩) ?_
  intro ds Q E hl h
  obtain ⟨ns, cs, m, r, rfl, hr, hp, k⟩ := h
  have h4 := hp.clOk.n6
  simp only [mSeq, bnd, gv, DL.ret, hide, startD, asB, List.foldr_nil, List.foldr_cons, List.map_nil, List.map_cons, List.length_cons, List.length_nil, List.nil_append, List.cons_append, List.getD_cons_zero, List.getD_cons_succ, List.set_cons_zero, List.set_cons_succ, List.replicate_succ, List.replicate_zero, Nat.reduceAdd, Nat.reduceSub, m1, m2, mOrd, mGcd, mLcmD, mNeg, mDiv, mI2, mJ2, mAdd, mSub, mMul, mMulD, mMod, mIx, mTup, mLst, mCall, mLen, mEq, mNe, if_true, if_false, Bool.false_eq_true, reduceIte, ite_ap, at20, at21, at30, at31, at32, true_and, dec_true, mNext, mgName, mgTup, mgCons, mgNil, asEnum, asI, mSl, wipeD, setAll, startC, asItems]
  refine ⟨by rw [List.length_map, sizeLine_eq]; omega, lcW_map (f := fun d => match d with | .int i => rD (i : Rat) | d => d) _ _ (fun d hd κ hk => ?_) ?_⟩
  · obtain ⟨i, hi, rfl⟩ := List.mem_map.mp hd
    simp only [mSeq, bnd, gv, DL.ret, hide, startD, asB, List.foldr_nil, List.foldr_cons, List.map_nil, List.map_cons, List.length_cons, List.length_nil, List.nil_append, List.cons_append, List.getD_cons_zero, List.getD_cons_succ, List.set_cons_zero, List.set_cons_succ, List.replicate_succ, List.replicate_zero, Nat.reduceAdd, Nat.reduceSub, m1, m2, mOrd, mGcd, mLcmD, mNeg, mDiv, mI2, mJ2, mAdd, mSub, mMul, mMulD, mMod, mIx, mTup, mLst, mCall, mLen, mEq, mNe, if_true, if_false, Bool.false_eq_true, reduceIte, ite_ap, at20, at21, at30, at31, at32, true_and, dec_true, mNext, mgName, mgTup, mgCons, mgNil, asEnum, asI, mSl, wipeD, setAll, startC]
    exact ⟨two_le, hk⟩
  · have e : [] ++ (cs.map D.int).map (fun d => match d with | .int i => rD (i : Rat) | d => d) = (rats cs).map rD := by
      rw [List.nil_append, List.map_map, List.map_map]
      rfl
    rw [e]
    exact ⟨two_le, cs, m, r, rfl, hr, hp.clOk, k⟩
theorem ok__law_awards (T : Txt P w K mg base C) (g : GG) (hg : GOk K C g) : GF P w K mg base g "_law_awards" 2 7 (sp_lawawardsR ["even", "losses", "halves"]) := by
  obtain ⟨f, fd, F, hm⟩ := T.F__law_awards
  exact gf_of F hm (F.binds (ps := ["parts", "rule"]) fun _ _ _ _ _ _ us hl => match us, hl with | [_, _], _ => rfl) (okf__law_awards T g hg F)
abbrev s__law_shuffled : Stmt := top 50
theorem sc__law_shuffled : FnScope ["well", "some", "left", "found", "k"] ["well", "some"] (defScope s__law_shuffled) := ⟨rfl, rfl, rfl, by decide +kernel, rfl, by decide +kernel, by decide +kernel⟩
theorem erase_map {f : Int → D} : ∀ (l : List Int) (n : Nat), (l.map f).eraseIdx n = (l.eraseIdx n).map f
  | [], n => by simp
  | x :: r, 0 => by simp
  | x :: r, n + 1 => by simp [erase_map r n]
theorem erase_perm : ∀ {l : List Int} {n : Nat} (h : n < l.length), (l[n] :: l.eraseIdx n).Perm l
  | [], n, h => by simp at h
  | x :: r, 0, h => by simp
  | x :: r, n + 1, h => by
    have hr : n < r.length := by simpa using h
    have ih := erase_perm hr
    simp only [List.getElem_cons_succ, List.eraseIdx_cons_succ]
    exact (List.Perm.swap x r[n] (r.eraseIdx n)).trans (ih.cons x)
def sp_shuf (Wl : Addr → Prop) : FS := fun ds Q E => ∃ (a : Addr) (d : D) (ns : List Int), ds = [.obj a, d] ∧ Wl a ∧ seqD d = some (ns.map D.int) ∧ ns.length ≤ 100 ∧ ∀ ns' : List Int, ns'.Perm ns → Q (.lst (ns'.map D.int))
theorem okf__law_shuffled (T : Txt P w K mg base C) (g : GG) (hg : GOk K C g) {f : Addr} {fd : FuncData} (F : Fun K "_law_shuffled" "_law_shuffled" (top 50) f fd) : FnOk P w K mg base (L2.CX P w) 2 f fd ["well", "some"] (spOf K g 2 (sp_shuf C.Wl)) := by
  have G__law_draw := ok__law_draw (base := base) T g hg
  refine fun_okD F sc__law_shuffled rfl [2, 3] (by decide) (fun cdv A outer s H E U Ed hr => ⟨_, (dss_cons (ds_par2 (i := 2) (j := 3) rfl sc__law_shuffled.nd (dr_new (df_list rfl T.n_list (dv 1)) (dr_new (df_lst da_nil) dr_nil)))
      (dss_cons (ds_forRF bPass rfl T.n_range (de_cb crLen rmLen T.n_len rfl (da_cons (dv 2) da_nil)) (dg_name 4 sc__law_shuffled.nd) (dss_one (ds_appPop 3 2 rfl (de_call G__law_draw hr (by omega) bTakes rfl (da_cons (dv 0) (da_cons (de_cb crLen rmLen T.n_len rfl (da_cons (dv 2) da_nil)) da_nil))))) (fun _ => rfl))
      (dss_one (ds_ret (dv 3)))))⟩) ?_
  intro ds Q E hl h
  obtain ⟨a, d, ns, rfl, hW, hd, hn, k⟩ := h
  have hd' : d = .tup (ns.map D.int) ∨ d = .lst (ns.map D.int) := by cases d <;> simp [seqD] at hd <;> simp [hd]
  refine seqI fun N0 hN0 => ?_
  suffices go : N0 [some (.obj a), some d, some (.lst (ns.map D.int)), some (.lst []), none] by
    rcases hd' with rfl | rfl
    · simp only [mSeq, bnd, gv, DL.ret, hide, startD, asB, List.foldr_nil, List.foldr_cons, List.map_nil, List.map_cons, List.length_cons, List.length_nil, List.nil_append, List.cons_append, List.getD_cons_zero, List.getD_cons_succ, List.set_cons_zero, List.set_cons_succ, List.replicate_succ, List.replicate_zero, Nat.reduceAdd, Nat.reduceSub, m1, m2, mOrd, mGcd, mLcmD, mNeg, mDiv, mI2, mJ2, mAdd, mSub, mMul, mMulD, mMod, mIx, mTup, mLst, mCall, mLen, mEq, mNe, if_true, if_false, Bool.false_eq_true, reduceIte, ite_ap, at20, at21, at30, at31, at32, true_and, dec_true, mNext, mgName, mgTup, mgCons, mgNil, asEnum, asI, mSl, wipeD, setAll, startC]
      exact ⟨Nat.zero_le _, go⟩
    · simp only [mSeq, bnd, gv, DL.ret, hide, startD, asB, List.foldr_nil, List.foldr_cons, List.map_nil, List.map_cons, List.length_cons, List.length_nil, List.nil_append, List.cons_append, List.getD_cons_zero, List.getD_cons_succ, List.set_cons_zero, List.set_cons_succ, List.replicate_succ, List.replicate_zero, Nat.reduceAdd, Nat.reduceSub, m1, m2, mOrd, mGcd, mLcmD, mNeg, mDiv, mI2, mJ2, mAdd, mSub, mMul, mMulD, mMod, mIx, mTup, mLst, mCall, mLen, mEq, mNe, if_true, if_false, Bool.false_eq_true, reduceIte, ite_ap, at20, at21, at30, at31, at32, true_and, dec_true, mNext, mgName, mgTup, mgCons, mgNil, asEnum, asI, mSl, wipeD, setAll, startC]
      exact ⟨Nat.zero_le _, go⟩
  refine hN0 _ ?_
  clear hN0 N0
  refine seqI fun N hN => ?_
  simp only [mSeq, bnd, gv, DL.ret, hide, startD, asB, List.foldr_nil, List.foldr_cons, List.map_nil, List.map_cons, List.length_cons, List.length_nil, List.nil_append, List.cons_append, List.getD_cons_zero, List.getD_cons_succ, List.set_cons_zero, List.set_cons_succ, List.replicate_succ, List.replicate_zero, Nat.reduceAdd, Nat.reduceSub, m1, m2, mOrd, mGcd, mLcmD, mNeg, mDiv, mI2, mJ2, mAdd, mSub, mMul, mMulD, mMod, mIx, mTup, mLst, mCall, mLen, mEq, mNe, if_true, if_false, Bool.false_eq_true, reduceIte, ite_ap, at20, at21, at30, at31, at32, true_and, dec_true, mNext, mgName, mgTup, mgCons, mgNil, asEnum, asI, mSl, wipeD, setAll, startC]
  refine ⟨⟨by rw [List.length_map]; omega, by rw [List.length_map]; omega⟩, ?_⟩
  refine forW_ind (fun n ρ => ∃ (got rem : List Int) (o : Option D), ρ = [some (.obj a), some d, some (.lst (rem.map D.int)), some (.lst (got.map D.int)), o] ∧ (got ++ rem).Perm ns ∧ got.length = n) _ 0 _ ⟨[], ns, none, rfl, List.Perm.refl _, rfl⟩ (fun i e ρ κ hie hI hk => ?_) (fun ρ hI => ?_)
  · obtain ⟨got, rem, o, rfl, hp, hg⟩ := hI
    have hi := (List.getElem?_eq_some_iff.mp hie).1
    rw [rangeD_len, List.length_map, Int.toNat_natCast] at hi
    have hlen := hp.length_eq
    rw [List.length_append] at hlen
    simp only [mSeq, bnd, gv, DL.ret, hide, startD, asB, List.foldr_nil, List.foldr_cons, List.map_nil, List.map_cons, List.length_cons, List.length_nil, List.nil_append, List.cons_append, List.getD_cons_zero, List.getD_cons_succ, List.set_cons_zero, List.set_cons_succ, List.replicate_succ, List.replicate_zero, Nat.reduceAdd, Nat.reduceSub, m1, m2, mOrd, mGcd, mLcmD, mNeg, mDiv, mI2, mJ2, mAdd, mSub, mMul, mMulD, mMod, mIx, mTup, mLst, mCall, mLen, mEq, mNe, if_true, if_false, Bool.false_eq_true, reduceIte, ite_ap, at20, at21, at30, at31, at32, true_and, dec_true, mNext, mgName, mgTup, mgCons, mgNil, asEnum, asI, mSl, wipeD, setAll, startC, mOwn]
    refine ⟨a, _, rfl, hW, by rw [List.length_map]; omega, by rw [List.length_map]; omega, fun r r0 r1 => ?_⟩
    rw [List.length_map] at r1
    have hr : r.toNat < rem.length := by omega
    refine ⟨r.toNat, .int rem[r.toNat], by congr 1; omega, by omega, by rw [List.getElem?_map, List.getElem?_eq_getElem hr]; rfl, by rw [List.length_map, sizeLine_eq]; omega, ?_⟩
    refine hk _ ⟨got ++ [rem[r.toNat]], rem.eraseIdx r.toNat, some e, ?_, ?_, by rw [List.length_append, hg]; rfl⟩
    · rw [List.map_append, erase_map]
      rfl
    · rw [List.append_assoc]
      exact (List.Perm.append_left got (erase_perm hr)).trans hp
  · obtain ⟨got, rem, o, rfl, hp, hg⟩ := hI
    rw [rangeD_len, List.length_map, Int.toNat_natCast, Nat.zero_add] at hg
    have hlen := hp.length_eq
    rw [List.length_append] at hlen
    have hr : rem = [] := List.length_eq_zero_iff.mp (by omega)
    subst hr
    rw [List.append_nil] at hp
    refine hN _ ?_
    simp only [mSeq, bnd, gv, DL.ret, hide, startD, asB, List.foldr_nil, List.foldr_cons, List.map_nil, List.map_cons, List.length_cons, List.length_nil, List.nil_append, List.cons_append, List.getD_cons_zero, List.getD_cons_succ, List.set_cons_zero, List.set_cons_succ, List.replicate_succ, List.replicate_zero, Nat.reduceAdd, Nat.reduceSub, m1, m2, mOrd, mGcd, mLcmD, mNeg, mDiv, mI2, mJ2, mAdd, mSub, mMul, mMulD, mMod, mIx, mTup, mLst, mCall, mLen, mEq, mNe, if_true, if_false, Bool.false_eq_true, reduceIte, ite_ap, at20, at21, at30, at31, at32, true_and, dec_true, mNext, mgName, mgTup, mgCons, mgNil, asEnum, asI, mSl, wipeD, setAll, startC]
    exact k got hp
theorem ok__law_shuffled (T : Txt P w K mg base C) (g : GG) (hg : GOk K C g) : GF P w K mg base g "_law_shuffled" 2 2 (sp_shuf C.Wl) := by
  obtain ⟨f, fd, F, hm⟩ := T.F__law_shuffled
  exact gf_of F hm (F.binds (ps := ["well", "some"]) fun _ _ _ _ _ _ us hl => match us, hl with | [_, _], _ => rfl) (okf__law_shuffled T g hg F)

end
end T1

namespace T1
open PySem PySem.Spec PyProof.Rows L2 DL LamX NdefX
section
variable {P : Program} {w : World} {K : PySem.W.Frag} {mg : Str → Option Value} {base : Heap} {C : Cons}
abbrev s__law_other_awards : Stmt := top 70
theorem sc__law_other_awards : FnScope ["well", "parts", "left", "found", "order", "lap", "k", "have", "room", "m", "some"] ["well", "parts"] (defScope s__law_other_awards) := ⟨rfl, rfl, rfl, by decide +kernel, rfl, by decide +kernel, by decide +kernel⟩
def sp_other (Wl : Addr → Prop) : FS := fun ds Q E => ∃ (a : Addr) (ns : List Str) (cs : List Int) (m : Int), ds = [.obj a, partsD ns cs m] ∧ Wl a ∧ PurseOk ns cs m ∧ ∀ qs, Aw cs m qs → Q (.tup (qs.map rD))
/-- how fine the parts are at a lap -/
def dn : Nat → Int
  | 0 => 1
  | 1 => 12
  | _ => 144
theorem dn_bd (t : Nat) : 1 ≤ dn t ∧ dn t ≤ 2000 := by
  rcases t with _ | _ | t <;> simp [dn]
/-- d times it is whole -/
def Mu (d : Int) (q : Rat) : Prop := ∃ x : Int, q * (d : Rat) = (x : Rat)
theorem Mu.add {d : Int} {p q : Rat} (hp : Mu d p) (hq : Mu d q) : Mu d (p + q) := by
  obtain ⟨x, hx⟩ := hp
  obtain ⟨y, hy⟩ := hq
  exact ⟨x + y, by rw [Rat.intCast_add]; grind⟩
theorem Mu.sub {d : Int} {p q : Rat} (hp : Mu d p) (hq : Mu d q) : Mu d (p - q) := by
  obtain ⟨x, hx⟩ := hp
  obtain ⟨y, hy⟩ := hq
  exact ⟨x - y, by rw [Rat.intCast_sub]; grind⟩
theorem Mu.up {d : Int} {p : Rat} (t : Int) (hp : Mu d p) : Mu (d * t) p := by
  obtain ⟨x, hx⟩ := hp
  exact ⟨x * t, by rw [Rat.intCast_mul, Rat.intCast_mul, ← hx]; grind⟩
theorem Mu.int (d i : Int) : Mu d (i : Rat) := ⟨i * d, by rw [Rat.intCast_mul]⟩
theorem Mu.part {d : Int} {p : Rat} (hp : Mu d p) (r m : Int) (h1 : 1 ≤ m) (h4 : m ≤ 4) : Mu (d * 12) (p * Rat.divInt r m) := by
  obtain ⟨x, hx⟩ := hp
  have hm : m = 1 ∨ m = 2 ∨ m = 3 ∨ m = 4 := by omega
  have key : ∀ t : Int, m * t = 12 → Mu (d * 12) (p * Rat.divInt r m) := fun t ht => by
    refine ⟨x * r * t, ?_⟩
    have hmq : (m : Rat) ≠ 0 := by
      rw [← zero_cast]
      intro e
      have := Rat.intCast_inj.mp e
      omega
    have hd : Rat.divInt r m * (m : Rat) = (r : Rat) := by rw [Rat.divInt_eq_div]; exact Rat.div_mul_cancel hmq
    have h12 : ((12 : Int) : Rat) = (m : Rat) * (t : Rat) := by rw [← Rat.intCast_mul, ht]
    rw [Rat.intCast_mul (x * r) t, Rat.intCast_mul x r, Rat.intCast_mul d 12, ← hx, ← hd, h12]
    grind
  rcases hm with rfl | rfl | rfl | rfl
  · exact key 12 rfl
  · exact key 6 rfl
  · exact key 4 rfl
  · exact key 3 rfl
theorem Mu.bd {d : Int} {q : Rat} (h1 : 1 ≤ d) (hd : d ≤ 2000) (h : Mu d q) (h0 : 0 ≤ q) (hq : q ≤ 10000) : Bd 60 q := by
  obtain ⟨x, e⟩ := h
  have hnq : (0 : Rat) < (d : Rat) := by rw [← zero_cast, Rat.intCast_lt_intCast]; omega
  have eq : q = Rat.divInt x d := by
    rw [Rat.divInt_eq_div, ← e, Rat.mul_div_cancel (Rat.ne_of_gt hnq)]
  have x0 : 0 ≤ x := by
    rw [← cast_le, zero_cast, ← e]
    exact Rat.mul_nonneg h0 (Rat.le_of_lt hnq)
  have x1 : x ≤ 10000 * d := by
    rw [← cast_le, ← e, Rat.intCast_mul]
    exact Rat.mul_le_mul_of_nonneg_right hq (Rat.le_of_lt hnq)
  rw [eq]
  exact Bd.of (by omega) (by omega) (by omega)
theorem sum_upd {v : Nat → Rat} {k : Nat} {s : Rat} : ∀ {l : List Nat}, l.Nodup → k ∈ l → (l.map fun j => if j = k then v j + s else v j).sum = (l.map v).sum + s
  | [], _, h => (List.not_mem_nil h).elim
  | a :: r, hn, h => by
    have hn' := List.nodup_cons.mp hn
    rw [List.map_cons, List.map_cons, List.sum_cons, List.sum_cons]
    by_cases e : a = k
    · subst e
      rw [if_pos rfl, List.map_congr_left (g := v) fun j hj => if_neg fun q => hn'.1 (by rw [← q]; exact hj)]
      grind
    · rw [if_neg e, sum_upd hn'.2 ((List.mem_cons.mp h).resolve_left fun q => e q.symm)]
      grind
/-- what is dealt out so far: of each one v, left over L; where the last lap has been (S) all is given or nothing is left -/
structure OA (cs : List Int) (m : Int) (v : Nat → Rat) (L : Rat) : Prop where
  v0 : ∀ k, k < cs.length → 0 ≤ v k ∧ v k ≤ ((cs.getD k 0 : Int) : Rat)
  l0 : 0 ≤ L
  sum : L + ((List.range cs.length).map v).sum = (m : Rat)
theorem OA.lm {cs : List Int} {m : Int} {v : Nat → Rat} {L : Rat} (h : OA cs m v L) : L ≤ (m : Rat) := by
  have h1 := sum_le (l := List.range cs.length) (f := fun _ => (0 : Rat)) (g := v) fun k hk => (h.v0 k (List.mem_range.mp hk)).1
  rw [sum_const (k := 0) fun _ _ => rfl] at h1
  have := h.sum
  grind
/-- one more part -/
theorem OA.step {cs : List Int} {m : Int} {v : Nat → Rat} {L s : Rat} {k : Nat} (h : OA cs m v L) (hk : k < cs.length) (s0 : 0 ≤ s) (s1 : s ≤ ((cs.getD k 0 : Int) : Rat) - v k) (s2 : s ≤ L) : OA cs m (fun j => if j = k then v j + s else v j) (L - s) := by
  refine ⟨fun j hj => ?_, by grind, ?_⟩
  · have := h.v0 j hj
    by_cases e : j = k
    · subst e
      rw [if_pos rfl]
      exact ⟨by grind, by grind⟩
    · rw [if_neg e]
      exact this
  · rw [sum_upd List.nodup_range (List.mem_range.mpr hk)]
    have := h.sum
    grind
theorem OA.fin {cs : List Int} {m : Int} {v : Nat → Rat} {L : Rat} (h : OA cs m v L) (hm : m ≤ cs.sum) (hS : L = 0 ∨ ∀ k, k < cs.length → v k = ((cs.getD k 0 : Int) : Rat)) : ((List.range cs.length).map v).sum = (m : Rat) := by
  have hs := h.sum
  rcases hS with h0 | hv
  · grind
  · have e : (List.range cs.length).map v = rats cs := by
      rw [List.map_congr_left fun k hk => hv k (List.mem_range.mp hk)]
      refine List.ext_getElem (by simp) fun i h1 h2 => ?_
      rw [List.length_map] at h2
      rw [List.getElem_map, List.getElem_map, List.getElem_range, List.getD_eq_getElem?_getD, List.getElem?_eq_getElem h2]
      rfl
    rw [e, rats_sum] at hs ⊢
    have h1 := cast_le.mpr hm
    have h2 := h.l0
    grind
theorem okf__law_other_awards (T : Txt P w K mg base C) (g : GG) (hg : GOk K C g) {f : Addr} {fd : FuncData} (F : Fun K "_law_other_awards" "_law_other_awards" (top 70) f fd) : FnOk P w K mg base (L2.CX P w) 5 f fd ["well", "parts"] (spOf K g 2 (sp_other C.Wl)) := by
  have G__law_shuffled := ok__law_shuffled (base := base) T g hg
  have G__law_minus := ok__law_minus (base := base) T g hg
  have G__law_draw := ok__law_draw (base := base) T g hg
  have G__law_times := ok__law_times (base := base) T g hg
  have G__law_frac := ok__law_frac (base := base) T g hg
  have G__law_below := ok__law_below (base := base) T g hg
  have G__law_add := ok__law_add (base := base) T g hg
  refine fun_okD F sc__law_other_awards rfl [3] (by decide) (fun cdv A outer s H E U Ed hr => ⟨_, (dss_cons (ds_tup3 2 3 4 rfl rfl sc__law_other_awards.nd (dr_val (de_tup (da_cons (de_ix rfl (dv 1) de_int) (da_cons de_int da_nil))) (dr_new df_dnew (dr_val (de_call G__law_shuffled hr (by omega) bTakes rfl (da_cons (dv 0) (da_cons (DF.de (df_listRg rfl T.n_list T.n_range (de_cb crLen rmLen T.n_len rfl (da_cons (de_ix rfl (dv 1) de_int) da_nil)))) da_nil))) dr_nil))))
      (dss_cons (ds_for bPass rfl (di_range1 T.n_range (da_cons de_int da_nil)) (dg_name 5 sc__law_other_awards.nd) (dss_one (ds_for bPass rfl (di_any rfl (dv 4)) (dg_name 6 sc__law_other_awards.nd) (dss_cons (ds_setF (i := 7) sc__law_other_awards.nd (de_dget2 hr (dv 3) (dv 6) (de_tup (da_cons de_int (da_cons de_int da_nil))) ⟨rfl, rfl, rfl, rfl⟩))
      (dss_cons (ds_set (i := 8) sc__law_other_awards.nd (de_call G__law_minus hr (by omega) bTakes rfl (da_cons (de_tup (da_cons (de_ix rfl (de_ix rfl (dv 1) de_int) (dv 6)) (da_cons de_int da_nil))) (da_cons (dv 7) da_nil))))
      (dss_cons (ds_set (i := 9) sc__law_other_awards.nd (de_if (dt_cmp opLt rmOrd (dv 5) de_int) (de_op opAdd rmAdd de_int (de_call G__law_draw hr (by omega) bTakes rfl (da_cons (dv 0) (da_cons de_int da_nil)))) de_int))
      (dss_cons (ds_set (i := 10) sc__law_other_awards.nd (de_call G__law_times hr (by omega) bTakes rfl (da_cons (dv 8) (da_cons (de_call G__law_frac hr (by omega) bTakes rfl (da_cons (de_if (dt_cmp opLt rmOrd (dv 5) de_int) (de_call G__law_draw hr (by omega) bTakes rfl (da_cons (dv 0) (da_cons (de_op opAdd rmAdd (dv 9) de_int) da_nil))) de_int) (da_cons (dv 9) da_nil))) da_nil))))
      (dss_cons (ds_set (i := 10) sc__law_other_awards.nd (de_if (dt_val (de_call G__law_below hr (by omega) bTakes rfl (da_cons (dv 2) (da_cons (dv 10) da_nil)))) (dv 2) (dv 10)))
      (dss_one (ds_putPair 3 2 hr rfl rfl sc__law_other_awards.nd (de_call G__law_add hr (by omega) bTakes rfl (da_cons (dv 7) (da_cons (dv 10) da_nil))) (de_call G__law_minus hr (by omega) bTakes rfl (da_cons (dv 2) (da_cons (dv 10) da_nil))) (dv 6)))))))) (fun _ => rfl))) (fun _ => rfl))
      (dss_one (ds_ret (de_ct crTup rmTup T.n_tuple rfl (da_cons (DF.de (df_lc rfl sc__law_other_awards.nd (di_range1 T.n_range (da_cons (de_cb crLen rmLen T.n_len rfl (da_cons (de_ix rfl (dv 1) de_int) da_nil)) da_nil)) (own := [("k", 6)]) (blk_of (N := ["well", "parts", "left", "found", "order", "lap", "k", "have", "room", "m", "some"]) (sc := defScope s__law_other_awards) (by decide +kernel)) (fun s H C cl fp => (dge_name 6 sc__law_other_awards.nd)) (fun s H C cl fp => dts_nil) (fun s H C cl fp => (de_dget hr (dv 3) (dv 6))) (fun _ => rfl))) da_nil))))))⟩) ?_
  intro ds Q E hl h
  obtain ⟨a, ns, cs, m, rfl, hW, hp, k⟩ := h
  have hC := hp.clOk
  have h4 := hp.cl
  have h6 := hC.n6
  have hm6 := hC.even.mb
  have cb : ∀ j, j < cs.length → 0 ≤ cs.getD j 0 ∧ cs.getD j 0 ≤ 99 ∧ cs[j]? = some (cs.getD j 0) := fun j hj => by
    have e : cs[j]? = some (cs.getD j 0) := by rw [List.getD_eq_getElem?_getD, List.getElem?_eq_getElem hj]; rfl
    have := hp.c _ (List.mem_of_getElem? e)
    exact ⟨this.1, this.2, e⟩
  have cb2 : ∀ j, j < cs.length → ((cs.getD j 0 : Int) : Rat) ≤ 99 := fun j hj => by
    have := cast_le.mpr (cb j hj).2.1
    have e : ((99 : Int) : Rat) = 99 := rfl
    grind
  refine seqI fun N hN => ?_
  simp only [mSeq, bnd, gv, DL.ret, hide, startD, asB, List.foldr_nil, List.foldr_cons, List.map_nil, List.map_cons, List.length_cons, List.length_nil, List.nil_append, List.cons_append, List.getD_cons_zero, List.getD_cons_succ, List.set_cons_zero, List.set_cons_succ, List.replicate_succ, List.replicate_zero, Nat.reduceAdd, Nat.reduceSub, m1, m2, mOrd, mGcd, mLcmD, mNeg, mDiv, mI2, mJ2, mAdd, mSub, mMul, mMulD, mMod, mIx, mTup, mLst, mCall, mLen, mEq, mNe, if_true, if_false, Bool.false_eq_true, reduceIte, ite_ap, at20, at21, at30, at31, at32, true_and, dec_true, mNext, mgName, mgTup, mgCons, mgNil, asEnum, asI, mSl, wipeD, setAll, startC, List.length_map]
  refine ⟨two_le, ⟨by omega, by omega⟩, a, _, (List.range ns.length).map fun (k : Nat) => (k : Int), rfl, hW, ?_, by rw [List.length_map, List.length_range]; omega, fun ord hord => hN _ ?_⟩
  · rw [rangeD0, Int.toNat_natCast, List.map_map]
    rfl
  clear hN N
  have hmem : ∀ x ∈ ord, ∃ j : Nat, x = (j : Int) ∧ j < cs.length := fun x hx => by
    obtain ⟨j, hj, e⟩ := List.mem_map.mp (hord.mem_iff.mp hx)
    exact ⟨j, e.symm, by have := List.mem_range.mp hj; omega⟩
  have hall : ∀ j, j < cs.length → (j : Int) ∈ ord := fun j hj => hord.mem_iff.mpr (List.mem_map.mpr ⟨j, List.mem_range.mpr (by omega), rfl⟩)
  have hnd : ord.Nodup := hord.nodup_iff.mpr (List.pairwise_map.mpr (List.Pairwise.imp (fun h e => h (Int.ofNat.inj e)) List.nodup_range))
  refine seqI fun N hN => ?_
  simp only [mSeq, bnd, gv, DL.ret, hide, startD, asB, List.foldr_nil, List.foldr_cons, List.map_nil, List.map_cons, List.length_cons, List.length_nil, List.nil_append, List.cons_append, List.getD_cons_zero, List.getD_cons_succ, List.set_cons_zero, List.set_cons_succ, List.replicate_succ, List.replicate_zero, Nat.reduceAdd, Nat.reduceSub, m1, m2, mOrd, mGcd, mLcmD, mNeg, mDiv, mI2, mJ2, mAdd, mSub, mMul, mMulD, mMod, mIx, mTup, mLst, mCall, mLen, mEq, mNe, if_true, if_false, Bool.false_eq_true, reduceIte, ite_ap, at20, at21, at30, at31, at32, true_and, dec_true, mNext, mgName, mgTup, mgCons, mgNil, asEnum, asI, mSl, wipeD, setAll, startC]
  refine ⟨⟨by decide, by decide⟩, ?_⟩
  refine forW_ind (fun t ρ => ∃ (v : Nat → Rat) (L : Rat) (kvs : List (Key × D)) (o5 o6 o7 o8 o9 o10 : Option D), ρ = [some (.obj a), some (partsD ns cs m), some (rD L), some (dictD kvs), some (.lst (ord.map D.int)), o5, o6, o7, o8, o9, o10] ∧ OA cs m v L ∧ (∀ j, j < cs.length → (getP kvs (.inl (j : Int))).getD (rD 0) = rD (v j) ∧ (0 < t → (getP kvs (.inl (j : Int))).isSome = true) ∧ Mu (dn t) (v j)) ∧ Mu (dn t) L ∧ kvs.length ≤ 6 * t ∧ (t = 3 → L = 0 ∨ ∀ j, j < cs.length → v j = ((cs.getD j 0 : Int) : Rat))) _ 0 _ ⟨fun _ => 0, (m : Rat), [], _, _, _, _, _, _, rfl, ⟨fun j hj => ⟨Rat.le_refl, cnn.mpr (cb j hj).1⟩, cnn.mpr hC.m0, by rw [sum_const (k := 0) fun _ _ => rfl]; grind⟩, fun j hj => ⟨rfl, fun h => absurd h (by decide), Mu.int 1 0⟩, Mu.int 1 m, Nat.le_refl _, fun h => absurd h (by decide)⟩ (fun t e ρ κ hie hI hk => ?_) (fun ρ hI => ?_)
  · obtain ⟨v, L, kvs, o5, o6, o7, o8, o9, o10, rfl, hOA, hv, hML, hkl, hS⟩ := hI
    have ht := (List.getElem?_eq_some_iff.mp hie).1
    rw [rangeD_len] at ht
    have ht : t < 3 := ht
    have hg : (rangeD 0 (Int.toNat 3))[t]? = some (.int (0 + (t : Int))) := rangeD_get ht
    rw [hg] at hie
    cases hie
    simp only [Nat.zero_add] at hv hML hkl hS hk ⊢
    simp only [mSeq, bnd, gv, DL.ret, hide, startD, asB, List.foldr_nil, List.foldr_cons, List.map_nil, List.map_cons, List.length_cons, List.length_nil, List.nil_append, List.cons_append, List.getD_cons_zero, List.getD_cons_succ, List.set_cons_zero, List.set_cons_succ, List.replicate_succ, List.replicate_zero, Nat.reduceAdd, Nat.reduceSub, m1, m2, mOrd, mGcd, mLcmD, mNeg, mDiv, mI2, mJ2, mAdd, mSub, mMul, mMulD, mMod, mIx, mTup, mLst, mCall, mLen, mEq, mNe, if_true, if_false, Bool.false_eq_true, reduceIte, ite_ap, at20, at21, at30, at31, at32, true_and, dec_true, mNext, mgName, mgTup, mgCons, mgNil, asEnum, asI, mSl, wipeD, setAll, startC, asItems]
    have hol : ord.length = cs.length := by rw [hord.length_eq, List.length_map, List.length_range, h4]
    refine forW_ind (fun i ρ => ∃ (v : Nat → Rat) (L : Rat) (kvs : List (Key × D)) (o6 o7 o8 o9 o10 : Option D), ρ = [some (.obj a), some (partsD ns cs m), some (rD L), some (dictD kvs), some (.lst (ord.map D.int)), some (.int (0 + (t : Int))), o6, o7, o8, o9, o10] ∧ OA cs m v L ∧ (∀ j, j < cs.length → (getP kvs (.inl (j : Int))).getD (rD 0) = rD (v j) ∧ ((j : Int) ∈ ord.take i ∨ 0 < t → (getP kvs (.inl (j : Int))).isSome = true) ∧ Mu (if (j : Int) ∈ ord.take i then dn (t + 1) else dn t) (v j)) ∧ Mu (dn (t + 1)) L ∧ kvs.length ≤ 6 * t + i ∧ (t = 2 → L = 0 ∨ ∀ j, j < cs.length → (j : Int) ∈ ord.take i → v j = ((cs.getD j 0 : Int) : Rat))) _ 0 _ ⟨v, L, kvs, _, _, _, _, _, rfl, hOA, fun j hj => ⟨(hv j hj).1, fun h => (hv j hj).2.1 (h.resolve_left (by simp)), by simpa using (hv j hj).2.2⟩, ?_, by omega, fun _ => .inr fun j hj h => by simp at h⟩ (fun i e ρ κ2 hie2 hJ hk2 => ?_) (fun ρ hJ => ?_)
    · rcases t with _ | _ | t
      · exact hML.up 12
      · exact hML.up 12
      · exact hML
    · obtain ⟨v, L, kvs, o6, o7, o8, o9, o10, rfl, hOA, hv, hML, hkl, hS⟩ := hJ
      simp only [Nat.zero_add] at hv hML hkl hS hk2 ⊢
      rw [List.getElem?_map] at hie2
      cases ek : ord[i]? with
      | none => rw [ek] at hie2; cases hie2
      | some x =>
        rw [ek] at hie2
        cases hie2
        obtain ⟨j0, rfl, hj0⟩ := hmem x (List.mem_of_getElem? ek)
        obtain ⟨hvg, _, hvM⟩ := hv j0 hj0
        obtain ⟨c0, c1, ce⟩ := cb j0 hj0
        have hv0 := hOA.v0 j0 hj0
        have hc99 := cb2 j0 hj0
        refine seqI fun N hN => ?_
        simp only [mSeq, bnd, gv, DL.ret, hide, startD, asB, List.foldr_nil, List.foldr_cons, List.map_nil, List.map_cons, List.length_cons, List.length_nil, List.nil_append, List.cons_append, List.getD_cons_zero, List.getD_cons_succ, List.set_cons_zero, List.set_cons_succ, List.replicate_succ, List.replicate_zero, Nat.reduceAdd, Nat.reduceSub, m1, m2, mOrd, mGcd, mLcmD, mNeg, mDiv, mI2, mJ2, mAdd, mSub, mMul, mMulD, mMod, mIx, mTup, mLst, mCall, mLen, mEq, mNe, if_true, if_false, Bool.false_eq_true, reduceIte, ite_ap, at20, at21, at30, at31, at32, true_and, dec_true, mNext, mgName, mgTup, mgCons, mgNil, asEnum, asI, mSl, wipeD, setAll, startC, mGet2, asDK, dictD, keyD, zip_back]
        have hvg' : (getP kvs (Sum.inl (j0 : Int))).getD (.tup [.int 0, .int 1]) = rD (v j0) := hvg
        rw [hvg']
        have hi := (List.getElem?_eq_some_iff.mp ek).1
        have hnt : ¬ (j0 : Int) ∈ ord.take i := fun h => by
          obtain ⟨i', hi', e'⟩ := List.getElem_of_mem h
          rw [List.length_take] at hi'
          rw [List.getElem_take] at e'
          have h1 := List.pairwise_iff_getElem.mp hnd i' i (by omega) hi (by omega)
          rw [List.getElem?_eq_getElem hi] at ek
          exact h1 (by rw [e', Option.some.inj ek])
        rw [if_neg hnt] at hvM
        have hd1 := dn_bd t
        have hd2 := dn_bd (t + 1)
        have bv : Bd 60 (v j0) := hvM.bd hd1.1 hd1.2 hv0.1 (by grind)
        have hLm := hOA.lm
        have hL0 := hOA.l0
        have bL : Bd 60 L := hML.bd hd2.1 hd2.2 hL0 (by grind)
        have bc : Bd 60 ((cs.getD j0 0 : Int) : Rat) := (half_int _).fr.bd (cnn.mpr c0) (by grind)
        refine ⟨two_le, rfl, hN _ ?_⟩
        clear hN N
        refine seqI fun N hN => ?_
        simp only [mSeq, bnd, gv, DL.ret, hide, startD, asB, List.foldr_nil, List.foldr_cons, List.map_nil, List.map_cons, List.length_cons, List.length_nil, List.nil_append, List.cons_append, List.getD_cons_zero, List.getD_cons_succ, List.set_cons_zero, List.set_cons_succ, List.replicate_succ, List.replicate_zero, Nat.reduceAdd, Nat.reduceSub, m1, m2, mOrd, mGcd, mLcmD, mNeg, mDiv, mI2, mJ2, mAdd, mSub, mMul, mMulD, mMod, mIx, mTup, mLst, mCall, mLen, mEq, mNe, if_true, if_false, Bool.false_eq_true, reduceIte, ite_ap, at20, at21, at30, at31, at32, true_and, dec_true, mNext, mgName, mgTup, mgCons, mgNil, asEnum, asI, mSl, wipeD, setAll, startC, atI_mapN ce]
        refine ⟨two_le, ((cs.getD j0 0 : Int) : Rat), v j0, rfl, bc.mono (by decide), bv.mono (by decide), trivial, ?_⟩
        have hMr : Mu (dn t) (((cs.getD j0 0 : Int) : Rat) - v j0) := (Mu.int _ _).sub hvM
        have hr0 : 0 ≤ ((cs.getD j0 0 : Int) : Rat) - v j0 := by grind
        have hr1 : ((cs.getD j0 0 : Int) : Rat) - v j0 ≤ 99 := by grind
        generalize hroom : ((cs.getD j0 0 : Int) : Rat) - v j0 = room at hMr hr0 hr1
        simp only [hroom]
        have br : Bd 60 room := hMr.bd hd1.1 hd1.2 hr0 (by grind)
        refine hN _ ?_
        clear hN N
        refine seqI fun N hN => ?_
        have go : ∀ mm : Int, 1 ≤ mm → mm ≤ 4 → (t = 2 → mm = 1) → N [some (.obj a), some (partsD ns cs m), some (rD L), some (dictD kvs), some (.lst (ord.map D.int)), some (.int (0 + (t : Int))), some (.int (j0 : Int)), some (rD (v j0)), some (rD room), some (.int mm), o10] := fun mm m1 m4 mt => by
          refine hN _ ?_
          clear hN N
          refine seqI fun N hN => ?_
          have go2 : ∀ rr : Int, 0 ≤ rr → rr ≤ mm → (t = 2 → rr = 1) → N [some (.obj a), some (partsD ns cs m), some (rD L), some (dictD kvs), some (.lst (ord.map D.int)), some (.int (0 + (t : Int))), some (.int (j0 : Int)), some (rD (v j0)), some (rD room), some (.int mm), some (rD (room * Rat.divInt rr mm))] := fun rr r0 r1 rt => by
            refine hN _ ?_
            clear hN N
            refine seqI fun N hN => ?_
            have hmq : (0 : Rat) < (mm : Rat) := by rw [← zero_cast, Rat.intCast_lt_intCast]; omega
            have hdm : Rat.divInt rr mm * (mm : Rat) = (rr : Rat) := by rw [Rat.divInt_eq_div]; exact Rat.div_mul_cancel (Rat.ne_of_gt hmq)
            have q0 : 0 ≤ Rat.divInt rr mm := Rat.divInt_nonneg r0 (by omega)
            have q1 : Rat.divInt rr mm ≤ 1 := by
              refine Rat.not_lt.mp fun h => ?_
              have h1 := Rat.mul_lt_mul_of_pos_right h hmq
              rw [hdm, Rat.one_mul, Rat.intCast_lt_intCast] at h1
              omega
            have s00 : 0 ≤ room * Rat.divInt rr mm := Rat.mul_nonneg hr0 q0
            have s01 : room * Rat.divInt rr mm ≤ room := by
              have := Rat.mul_le_mul_of_nonneg_left q1 hr0
              rwa [Rat.mul_one] at this
            have hMs : Mu (dn (t + 1)) (room * Rat.divInt rr mm) := by
              have ht3 : t = 0 ∨ t = 1 ∨ t = 2 := by omega
              rcases ht3 with rfl | rfl | rfl
              · exact hMr.part rr mm m1 m4
              · exact hMr.part rr mm m1 m4
              · rw [rt rfl, mt rfl, show Rat.divInt 1 1 = 1 by decide +kernel, Rat.mul_one]
                exact hMr
            have hlast : t = 2 → room * Rat.divInt rr mm = room := fun h => by rw [rt h, mt h, show Rat.divInt 1 1 = 1 by decide +kernel, Rat.mul_one]
            generalize room * Rat.divInt rr mm = s0 at s00 s01 hMs hlast
            have bs0 : Bd 60 s0 := hMs.bd hd2.1 hd2.2 s00 (by grind)
            have go3 : ∀ s : Rat, 0 ≤ s → s ≤ room → s ≤ L → Mu (dn (t + 1)) s → (t = 2 → s = L ∨ s = room) → N [some (.obj a), some (partsD ns cs m), some (rD L), some (dictD kvs), some (.lst (ord.map D.int)), some (.int (0 + (t : Int))), some (.int (j0 : Int)), some (rD (v j0)), some (rD room), some (.int mm), some (rD s)] := fun s h0 h1 h2 hM hl => by
              refine hN _ ?_
              clear hN N
              have bs : Bd 60 s := hM.bd hd2.1 hd2.2 h0 (by grind)
              simp only [mSeq, bnd, gv, DL.ret, hide, startD, asB, List.foldr_nil, List.foldr_cons, List.map_nil, List.map_cons, List.length_cons, List.length_nil, List.nil_append, List.cons_append, List.getD_cons_zero, List.getD_cons_succ, List.set_cons_zero, List.set_cons_succ, List.replicate_succ, List.replicate_zero, Nat.reduceAdd, Nat.reduceSub, m1, m2, mOrd, mGcd, mLcmD, mNeg, mDiv, mI2, mJ2, mAdd, mSub, mMul, mMulD, mMod, mIx, mTup, mLst, mCall, mLen, mEq, mNe, if_true, if_false, Bool.false_eq_true, reduceIte, ite_ap, at20, at21, at30, at31, at32, true_and, dec_true, mNext, mgName, mgTup, mgCons, mgNil, asEnum, asI, mSl, wipeD, setAll, startC, mOwnK, dictD, keyD, zip_back]
              refine ⟨_, _, rfl, bv.mono (by decide), bs.mono (by decide), trivial, _, _, rfl, bL.mono (by decide), bs.mono (by decide), trivial, by rw [sizeLine_eq]; omega, ?_⟩
              refine hk2 _ ⟨fun j => if j = j0 then v j + s else v j, L - s, putP kvs (.inl (j0 : Int)) (rD (v j0 + s)), _, _, _, _, _, rfl, hOA.step hj0 h0 (by rw [hroom]; exact h1) h2, fun j hj => ?_, hML.sub hM, ?_, fun h2' => ?_⟩
              · obtain ⟨g1, g2, g3⟩ := hv j hj
                dsimp only
                rw [get_put]
                have etake : ∀ x : Int, x ∈ ord.take (i + 1) ↔ x ∈ ord.take i ∨ x = (j0 : Int) := fun x => by
                  rw [List.take_add_one, ek, Option.toList_some, List.mem_append, List.mem_singleton]
                by_cases e : j = j0
                · subst e
                  rw [if_pos rfl, if_pos rfl, if_pos ((etake _).mpr (.inr rfl))]
                  refine ⟨rfl, fun _ => rfl, ?_⟩
                  refine Mu.add ?_ hM
                  rcases t with _ | _ | t
                  · exact hvM.up 12
                  · exact hvM.up 12
                  · exact hvM
                · have ne : ¬ (Sum.inl (j : Int) : Key) = Sum.inl (j0 : Int) := fun q => e (by injection q with q; omega)
                  rw [if_neg ne, if_neg e]
                  refine ⟨g1, fun h => g2 ?_, ?_⟩
                  · rcases h with h | h
                    · exact .inl (((etake _).mp h).resolve_right fun q => e (by omega))
                    · exact .inr h
                  · by_cases hin : (j : Int) ∈ ord.take i
                    · rw [if_pos hin] at g3
                      rw [if_pos ((etake _).mpr (.inl hin))]
                      exact g3
                    · rw [if_neg hin] at g3
                      rw [if_neg fun q => ((etake _).mp q).elim hin fun q => e (by omega)]
                      exact g3
              · have := put_len (kvs := kvs) (k := .inl (j0 : Int)) (v := rD (v j0 + s))
                omega
              · rcases hS h2' with hz | hz
                · exact .inl (by grind)
                · rcases hl h2' with h | h
                  · exact .inl (by grind)
                  · refine .inr fun j hj hin => ?_
                    dsimp only
                    rw [List.take_add_one, ek, Option.toList_some] at hin
                    by_cases e : j = j0
                    · subst e
                      rw [if_pos rfl]
                      grind
                    · rw [if_neg e]
                      rcases List.mem_append.mp hin with hin | hin
                      · exact hz j hj hin
                      · exact absurd (List.mem_singleton.mp hin) (by omega)
            simp only [mSeq, bnd, gv, DL.ret, hide, startD, asB, List.foldr_nil, List.foldr_cons, List.map_nil, List.map_cons, List.length_cons, List.length_nil, List.nil_append, List.cons_append, List.getD_cons_zero, List.getD_cons_succ, List.set_cons_zero, List.set_cons_succ, List.replicate_succ, List.replicate_zero, Nat.reduceAdd, Nat.reduceSub, m1, m2, mOrd, mGcd, mLcmD, mNeg, mDiv, mI2, mJ2, mAdd, mSub, mMul, mMulD, mMod, mIx, mTup, mLst, mCall, mLen, mEq, mNe, if_true, if_false, Bool.false_eq_true, reduceIte, ite_ap, at20, at21, at30, at31, at32, true_and, dec_true, mNext, mgName, mgTup, mgCons, mgNil, asEnum, asI, mSl, wipeD, setAll, startC]
            refine ⟨_, _, rfl, bL.mono (by decide), bs0.mono (by decide), trivial, ?_⟩
            show (if decide (L < s0) = true then _ else _)
            by_cases hlt : L < s0
            · rw [if_pos (decide_eq_true hlt)]
              exact go3 L hL0 (by grind) Rat.le_refl hML fun _ => .inl rfl
            · rw [if_neg (by simpa using hlt)]
              exact go3 s0 s00 s01 (Rat.not_lt.mp hlt) hMs fun h => .inr (hlast h)
          simp only [mSeq, bnd, gv, DL.ret, hide, startD, asB, List.foldr_nil, List.foldr_cons, List.map_nil, List.map_cons, List.length_cons, List.length_nil, List.nil_append, List.cons_append, List.getD_cons_zero, List.getD_cons_succ, List.set_cons_zero, List.set_cons_succ, List.replicate_succ, List.replicate_zero, Nat.reduceAdd, Nat.reduceSub, m1, m2, mOrd, mGcd, mLcmD, mNeg, mDiv, mI2, mJ2, mAdd, mSub, mMul, mMulD, mMod, mIx, mTup, mLst, mCall, mLen, mEq, mNe, if_true, if_false, Bool.false_eq_true, reduceIte, ite_ap, at20, at21, at30, at31, at32, true_and, dec_true, mNext, mgName, mgTup, mgCons, mgNil, asEnum, asI, mSl, wipeD, setAll, startC]
          have fr : ∀ rr : Int, 0 ≤ rr → rr ≤ mm → (t = 2 → rr = 1) → sp_frac [.int rr, .int mm] (fun b => sp_times [rD room, b] (fun d => N [some (.obj a), some (partsD ns cs m), some (rD L), some (dictD kvs), some (.lst (ord.map D.int)), some (.int (0 + (t : Int))), some (.int (j0 : Int)), some (rD (v j0)), some (rD room), some (.int mm), some d]) E) E := fun rr r0 r1 rt => ⟨_, _, rfl, by omega, Nat.lt_of_lt_of_le (show mm.natAbs < 2 ^ 10 by omega) (Nat.pow_le_pow_right (by decide) (by decide)), _, _, rfl, br.mono (by decide), (Bd.of (k := 10) (by omega) (by omega) (by omega)).mono (by decide), trivial, go2 rr r0 r1 rt⟩
          by_cases ht2 : (0 : Int) + (t : Int) < 2
          · rw [if_pos ht2]
            exact ⟨a, _, rfl, hW, by omega, by omega, fun r r0 r1 => fr r r0 (by omega) fun h => by omega⟩
          · rw [if_neg ht2]
            exact fr 1 (by decide) (by omega) fun _ => rfl
        simp only [mSeq, bnd, gv, DL.ret, hide, startD, asB, List.foldr_nil, List.foldr_cons, List.map_nil, List.map_cons, List.length_cons, List.length_nil, List.nil_append, List.cons_append, List.getD_cons_zero, List.getD_cons_succ, List.set_cons_zero, List.set_cons_succ, List.replicate_succ, List.replicate_zero, Nat.reduceAdd, Nat.reduceSub, m1, m2, mOrd, mGcd, mLcmD, mNeg, mDiv, mI2, mJ2, mAdd, mSub, mMul, mMulD, mMod, mIx, mTup, mLst, mCall, mLen, mEq, mNe, if_true, if_false, Bool.false_eq_true, reduceIte, ite_ap, at20, at21, at30, at31, at32, true_and, dec_true, mNext, mgName, mgTup, mgCons, mgNil, asEnum, asI, mSl, wipeD, setAll, startC]
        by_cases ht2 : (0 : Int) + (t : Int) < 2
        · rw [if_pos ht2]
          exact ⟨a, 4, rfl, hW, by decide, by decide, fun r r0 r1 => go (1 + r) (by omega) (by omega) fun h => by omega⟩
        · rw [if_neg ht2]
          exact go 1 (by decide) (by decide) fun _ => rfl
    · obtain ⟨v, L, kvs, o6, o7, o8, o9, o10, rfl, hOA, hv, hML, hkl, hS⟩ := hJ
      rw [List.length_map, Nat.zero_add] at hv hkl hS
      rw [List.take_length] at hv hS
      refine hk _ ⟨v, L, kvs, _, _, _, _, _, _, rfl, hOA, fun j hj => ⟨(hv j hj).1, fun _ => (hv j hj).2.1 (.inl (hall j hj)), ?_⟩, hML, by omega, fun h => ?_⟩
      · have := (hv j hj).2.2
        rwa [if_pos (hall j hj)] at this
      · rcases hS (by omega) with h | h
        · exact .inl h
        · exact .inr fun j hj => h j hj (hall j hj)
  · obtain ⟨v, L, kvs, o5, o6, o7, o8, o9, o10, rfl, hOA, hv, hML, hkl, hS⟩ := hI
    rw [rangeD_len, Nat.zero_add] at hv hML hkl hS
    have hvs : ∀ j, j < cs.length → getP kvs (.inl (j : Int)) = some (rD (v j)) := fun j hj => by
      obtain ⟨g1, g2, _⟩ := hv j hj
      have g3 := g2 (by decide)
      cases e : getP kvs (.inl (j : Int)) with
      | none => rw [e] at g3; cases g3
      | some d =>
        rw [e] at g1
        exact congrArg some g1
    refine hN _ ?_
    simp only [mSeq, bnd, gv, DL.ret, hide, startD, asB, List.foldr_nil, List.foldr_cons, List.map_nil, List.map_cons, List.length_cons, List.length_nil, List.nil_append, List.cons_append, List.getD_cons_zero, List.getD_cons_succ, List.set_cons_zero, List.set_cons_succ, List.replicate_succ, List.replicate_zero, Nat.reduceAdd, Nat.reduceSub, m1, m2, mOrd, mGcd, mLcmD, mNeg, mDiv, mI2, mJ2, mAdd, mSub, mMul, mMulD, mMod, mIx, mTup, mLst, mCall, mLen, mEq, mNe, if_true, if_false, Bool.false_eq_true, reduceIte, ite_ap, at20, at21, at30, at31, at32, true_and, dec_true, mNext, mgName, mgTup, mgCons, mgNil, asEnum, asI, mSl, wipeD, setAll, startC]
    refine ⟨⟨by rw [List.length_map]; omega, by rw [List.length_map]; omega⟩, by rw [rangeD_len, sizeLine_eq, Int.toNat_natCast, List.length_map]; omega, ?_⟩
    rw [rangeD0, Int.toNat_natCast, List.length_map, ← h4]
    refine lcW_map (f := fun d => match d with | .int i => rD (v i.toNat) | d => d) _ _ (fun d hd κ hk => ?_) ?_
    · obtain ⟨b, hb, rfl⟩ := List.mem_map.mp hd
      simp only [mSeq, bnd, gv, DL.ret, hide, startD, asB, List.foldr_nil, List.foldr_cons, List.map_nil, List.map_cons, List.length_cons, List.length_nil, List.nil_append, List.cons_append, List.getD_cons_zero, List.getD_cons_succ, List.set_cons_zero, List.set_cons_succ, List.replicate_succ, List.replicate_zero, Nat.reduceAdd, Nat.reduceSub, m1, m2, mOrd, mGcd, mLcmD, mNeg, mDiv, mI2, mJ2, mAdd, mSub, mMul, mMulD, mMod, mIx, mTup, mLst, mCall, mLen, mEq, mNe, if_true, if_false, Bool.false_eq_true, reduceIte, ite_ap, at20, at21, at30, at31, at32, true_and, dec_true, mNext, mgName, mgTup, mgCons, mgNil, asEnum, asI, mSl, wipeD, setAll, startC, mGet, dictD, keyD, zip_back, hvs b (List.mem_range.mp hb)]
      exact hk
    · have e : [] ++ ((List.range cs.length).map fun (k : Nat) => D.int (k : Int)).map (fun d => match d with | .int i => rD (v i.toNat) | d => d) = ((List.range cs.length).map v).map rD := by
        rw [List.nil_append]
        simp only [List.map_map]
        exact List.map_congr_left fun k _ => by simp only [Function.comp, Int.toNat_natCast]
      rw [e]
      refine k _ ⟨by rw [List.length_map, List.length_range], fun q hq => ?_, fun i c q e1 e2 => ?_, hOA.fin hC.m1 (hS rfl)⟩
      · obtain ⟨j, hj, rfl⟩ := List.mem_map.mp hq
        have hj := List.mem_range.mp hj
        have hd := dn_bd 3
        exact (hv j hj).2.2.bd hd.1 hd.2 (hOA.v0 j hj).1 (by have := (hOA.v0 j hj).2; have := cb2 j hj; grind)
      · have hi := (List.getElem?_eq_some_iff.mp e1).1
        rw [List.getElem?_map, List.getElem?_range hi] at e2
        cases e2
        have := hOA.v0 i hi
        rw [List.getD_eq_getElem?_getD, e1] at this
        exact this
theorem ok__law_other_awards (T : Txt P w K mg base C) (g : GG) (hg : GOk K C g) : GF P w K mg base g "_law_other_awards" 2 5 (sp_other C.Wl) := by
  obtain ⟨f, fd, F, hm⟩ := T.F__law_other_awards
  exact gf_of F hm (F.binds (ps := ["well", "parts"]) fun _ _ _ _ _ _ us hl => match us, hl with | [_, _], _ => rfl) (okf__law_other_awards T g hg F)
abbrev s__law_same : Stmt := top 51
theorem sc__law_same : FnScope ["one", "two", "alike", "k"] ["one", "two"] (defScope s__law_same) := ⟨rfl, rfl, rfl, by decide +kernel, rfl, by decide +kernel, by decide +kernel⟩
theorem same0 (T : Txt P w K mg base C) (g : GG) : GF P w K mg base g "_law_same" 2 1 (sp_same 0) := by
  obtain ⟨f, fd, F, hm⟩ := T.F__law_same
  refine gf_of F hm (F.binds (ps := ["one", "two"]) fun _ _ _ _ _ _ us hl => match us, hl with | [_, _], _ => rfl) (fun_okD F sc__law_same rfl [] (by decide) (fun cdv A outer s H E U Ed hr => ⟨_, (dss_cons (ds_if (dt_val (de_isi T.cs rfl T.n_isinstance (da_cons (dv 1) (da_cons (de_bltn T.n_tuple rfl) da_nil)))) dss_never dss_nil)
      (dss_cons (ds_if (dt_val (de_isi T.cs rfl T.n_isinstance (da_cons (dv 1) (da_cons (de_bltn T.n_bool rfl) da_nil)))) (dss_one (ds_ret (de_and (de_isi T.cs rfl T.n_isinstance (da_cons (dv 0) (da_cons (de_bltn T.n_bool rfl) da_nil))) (de_one (de_cmp (opEq hr) rmEq (dv 0) (dv 1)))))) dss_nil)
      (dss_cons (ds_if (dt_val (de_isi T.cs rfl T.n_isinstance (da_cons (dv 1) (da_cons (de_bltn T.n_int rfl) da_nil)))) (dss_one (ds_ret (de_and (de_isi T.cs rfl T.n_isinstance (da_cons (dv 0) (da_cons (de_bltn T.n_int rfl) da_nil))) (de_and (de_not (de_isi T.cs rfl T.n_isinstance (da_cons (dv 0) (da_cons (de_bltn T.n_bool rfl) da_nil)))) (de_one (de_cmp (opEq hr) rmEq (dv 0) (dv 1))))))) dss_nil)
      (dss_cons (ds_if (dt_val (de_isi T.cs rfl T.n_isinstance (da_cons (dv 1) (da_cons (de_bltn T.n_str rfl) da_nil)))) (dss_one (ds_ret (de_and (de_isi T.cs rfl T.n_isinstance (da_cons (dv 0) (da_cons (de_bltn T.n_str rfl) da_nil))) (de_one (de_cmp (opEq hr) rmEq (dv 0) (dv 1)))))) dss_nil)
      (dss_cons (ds_if (dt_cmp opIs rmIs (dv 1) de_non) (dss_one (ds_ret (de_cmp opIs rmIs (dv 0) de_non))) dss_nil)
      (dss_cons ds_never
      (dss_one ds_never)))))))⟩) ?_)
  intro ds Q E hl h
  obtain ⟨x, rfl, hx, k⟩ := h
  cases x with
  | non =>
    simp only [mSeq, bnd, gv, DL.ret, hide, startD, asB, List.foldr_nil, List.foldr_cons, List.map_nil, List.map_cons, List.length_cons, List.length_nil, List.nil_append, List.cons_append, List.getD_cons_zero, List.getD_cons_succ, List.set_cons_zero, List.set_cons_succ, List.replicate_succ, List.replicate_zero, Nat.reduceAdd, Nat.reduceSub, m1, m2, mOrd, mGcd, mLcmD, mNeg, mDiv, mI2, mJ2, mAdd, mSub, mMul, mMulD, mMod, mIx, mTup, mLst, mCall, mLen, mEq, mNe, if_true, if_false, Bool.false_eq_true, reduceIte, ite_ap, at20, at21, at30, at31, at32, true_and, dec_true, mNext, mgName, mgTup, mgCons, mgNil, asEnum, asI, mSl, wipeD, setAll, startC, mIsi, tyD, mIs, DL.isNon]
    simp [isTy]
    exact k
  | bl b =>
    simp only [mSeq, bnd, gv, DL.ret, hide, startD, asB, List.foldr_nil, List.foldr_cons, List.map_nil, List.map_cons, List.length_cons, List.length_nil, List.nil_append, List.cons_append, List.getD_cons_zero, List.getD_cons_succ, List.set_cons_zero, List.set_cons_succ, List.replicate_succ, List.replicate_zero, Nat.reduceAdd, Nat.reduceSub, m1, m2, mOrd, mGcd, mLcmD, mNeg, mDiv, mI2, mJ2, mAdd, mSub, mMul, mMulD, mMod, mIx, mTup, mLst, mCall, mLen, mEq, mNe, if_true, if_false, Bool.false_eq_true, reduceIte, ite_ap, at20, at21, at30, at31, at32, true_and, dec_true, mNext, mgName, mgTup, mgCons, mgNil, asEnum, asI, mSl, wipeD, setAll, startC, mIsi, tyD]
    simp [isTy, EqOk, eqD]
    exact k
  | int i =>
    simp only [mSeq, bnd, gv, DL.ret, hide, startD, asB, List.foldr_nil, List.foldr_cons, List.map_nil, List.map_cons, List.length_cons, List.length_nil, List.nil_append, List.cons_append, List.getD_cons_zero, List.getD_cons_succ, List.set_cons_zero, List.set_cons_succ, List.replicate_succ, List.replicate_zero, Nat.reduceAdd, Nat.reduceSub, m1, m2, mOrd, mGcd, mLcmD, mNeg, mDiv, mI2, mJ2, mAdd, mSub, mMul, mMulD, mMod, mIx, mTup, mLst, mCall, mLen, mEq, mNe, if_true, if_false, Bool.false_eq_true, reduceIte, ite_ap, at20, at21, at30, at31, at32, true_and, dec_true, mNext, mgName, mgTup, mgCons, mgNil, asEnum, asI, mSl, wipeD, setAll, startC, mIsi, tyD]
    simp [isTy, EqOk, eqD]
    exact k
  | str x =>
    simp only [mSeq, bnd, gv, DL.ret, hide, startD, asB, List.foldr_nil, List.foldr_cons, List.map_nil, List.map_cons, List.length_cons, List.length_nil, List.nil_append, List.cons_append, List.getD_cons_zero, List.getD_cons_succ, List.set_cons_zero, List.set_cons_succ, List.replicate_succ, List.replicate_zero, Nat.reduceAdd, Nat.reduceSub, m1, m2, mOrd, mGcd, mLcmD, mNeg, mDiv, mI2, mJ2, mAdd, mSub, mMul, mMulD, mMod, mIx, mTup, mLst, mCall, mLen, mEq, mNe, if_true, if_false, Bool.false_eq_true, reduceIte, ite_ap, at20, at21, at30, at31, at32, true_and, dec_true, mNext, mgName, mgTup, mgCons, mgNil, asEnum, asI, mSl, wipeD, setAll, startC, mIsi, tyD]
    simp [isTy, EqOk, eqD]
    exact k
  | _ => exact hx.elim
theorem sameS (T : Txt P w K mg base C) (g : GG) (d : Nat) (G__law_same : GF P w K mg base g "_law_same" 2 (d + 1) (sp_same d)) : GF P w K mg base g "_law_same" 2 (d + 1 + 1) (sp_same (d + 1)) := by
  obtain ⟨f, fd, F, hm⟩ := T.F__law_same
  refine gf_of F hm (F.binds (ps := ["one", "two"]) fun _ _ _ _ _ _ us hl => match us, hl with | [_, _], _ => rfl) (fun_okD F sc__law_same rfl [] (by decide) (fun cdv A outer s H E U Ed hr => ⟨_, (dss_cons (ds_if (dt_val (de_isi T.cs rfl T.n_isinstance (da_cons (dv 1) (da_cons (de_bltn T.n_tuple rfl) da_nil)))) (dss_cons (ds_if (dt_w (dw_or (dt_not (dt_val (de_isi T.cs rfl T.n_isinstance (da_cons (dv 0) (da_cons (de_bltn T.n_tuple rfl) da_nil))))) (dw_or1 (dt_cmp (opNe hr) rmNe (de_cb crLen rmLen T.n_len rfl (da_cons (dv 0) da_nil)) (de_cb crLen rmLen T.n_len rfl (da_cons (dv 1) da_nil)))))) (dss_one (ds_ret de_bl)) dss_nil)
      (dss_one (ds_ret (de_cb (cr_all rfl) rmAll T.n_all rfl (da_cons (DF.de (df_lc rfl sc__law_same.nd (di_range1 T.n_range (da_cons (de_cb crLen rmLen T.n_len rfl (da_cons (dv 1) da_nil)) da_nil)) (own := [("k", 3)]) (blk_of (N := ["one", "two", "alike", "k"]) (sc := defScope s__law_same) (by decide +kernel)) (fun s H C cl fp => (dge_name 3 sc__law_same.nd)) (fun s H C cl fp => dts_nil) (fun s H C cl fp => (de_call G__law_same hr (by omega) takesN rfl (da_cons (de_ix rfl (dv 0) (dv 3)) (da_cons (de_ix rfl (dv 1) (dv 3)) da_nil)))) (fun _ => rfl))) da_nil))))) dss_nil)
      (dss_cons (ds_if (dt_val (de_isi T.cs rfl T.n_isinstance (da_cons (dv 1) (da_cons (de_bltn T.n_bool rfl) da_nil)))) (dss_one (ds_ret (de_and (de_isi T.cs rfl T.n_isinstance (da_cons (dv 0) (da_cons (de_bltn T.n_bool rfl) da_nil))) (de_one (de_cmp (opEq hr) rmEq (dv 0) (dv 1)))))) dss_nil)
      (dss_cons (ds_if (dt_val (de_isi T.cs rfl T.n_isinstance (da_cons (dv 1) (da_cons (de_bltn T.n_int rfl) da_nil)))) (dss_one (ds_ret (de_and (de_isi T.cs rfl T.n_isinstance (da_cons (dv 0) (da_cons (de_bltn T.n_int rfl) da_nil))) (de_and (de_not (de_isi T.cs rfl T.n_isinstance (da_cons (dv 0) (da_cons (de_bltn T.n_bool rfl) da_nil)))) (de_one (de_cmp (opEq hr) rmEq (dv 0) (dv 1))))))) dss_nil)
      (dss_cons (ds_if (dt_val (de_isi T.cs rfl T.n_isinstance (da_cons (dv 1) (da_cons (de_bltn T.n_str rfl) da_nil)))) (dss_one (ds_ret (de_and (de_isi T.cs rfl T.n_isinstance (da_cons (dv 0) (da_cons (de_bltn T.n_str rfl) da_nil))) (de_one (de_cmp (opEq hr) rmEq (dv 0) (dv 1)))))) dss_nil)
      (dss_cons (ds_if (dt_cmp opIs rmIs (dv 1) de_non) (dss_one (ds_ret (de_cmp opIs rmIs (dv 0) de_non))) dss_nil)
      (dss_cons ds_never
      (dss_one ds_never)))))))⟩) ?_)
  intro ds Q E hl h
  obtain ⟨x, rfl, hx, k⟩ := h
  cases x with
  | non =>
    simp only [mSeq, bnd, gv, DL.ret, hide, startD, asB, List.foldr_nil, List.foldr_cons, List.map_nil, List.map_cons, List.length_cons, List.length_nil, List.nil_append, List.cons_append, List.getD_cons_zero, List.getD_cons_succ, List.set_cons_zero, List.set_cons_succ, List.replicate_succ, List.replicate_zero, Nat.reduceAdd, Nat.reduceSub, m1, m2, mOrd, mGcd, mLcmD, mNeg, mDiv, mI2, mJ2, mAdd, mSub, mMul, mMulD, mMod, mIx, mTup, mLst, mCall, mLen, mEq, mNe, if_true, if_false, Bool.false_eq_true, reduceIte, ite_ap, at20, at21, at30, at31, at32, true_and, dec_true, mNext, mgName, mgTup, mgCons, mgNil, asEnum, asI, mSl, wipeD, setAll, startC, mIsi, tyD, mIs, DL.isNon]
    simp [isTy]
    exact k
  | bl b =>
    simp only [mSeq, bnd, gv, DL.ret, hide, startD, asB, List.foldr_nil, List.foldr_cons, List.map_nil, List.map_cons, List.length_cons, List.length_nil, List.nil_append, List.cons_append, List.getD_cons_zero, List.getD_cons_succ, List.set_cons_zero, List.set_cons_succ, List.replicate_succ, List.replicate_zero, Nat.reduceAdd, Nat.reduceSub, m1, m2, mOrd, mGcd, mLcmD, mNeg, mDiv, mI2, mJ2, mAdd, mSub, mMul, mMulD, mMod, mIx, mTup, mLst, mCall, mLen, mEq, mNe, if_true, if_false, Bool.false_eq_true, reduceIte, ite_ap, at20, at21, at30, at31, at32, true_and, dec_true, mNext, mgName, mgTup, mgCons, mgNil, asEnum, asI, mSl, wipeD, setAll, startC, mIsi, tyD]
    simp [isTy, EqOk, eqD]
    exact k
  | int i =>
    simp only [mSeq, bnd, gv, DL.ret, hide, startD, asB, List.foldr_nil, List.foldr_cons, List.map_nil, List.map_cons, List.length_cons, List.length_nil, List.nil_append, List.cons_append, List.getD_cons_zero, List.getD_cons_succ, List.set_cons_zero, List.set_cons_succ, List.replicate_succ, List.replicate_zero, Nat.reduceAdd, Nat.reduceSub, m1, m2, mOrd, mGcd, mLcmD, mNeg, mDiv, mI2, mJ2, mAdd, mSub, mMul, mMulD, mMod, mIx, mTup, mLst, mCall, mLen, mEq, mNe, if_true, if_false, Bool.false_eq_true, reduceIte, ite_ap, at20, at21, at30, at31, at32, true_and, dec_true, mNext, mgName, mgTup, mgCons, mgNil, asEnum, asI, mSl, wipeD, setAll, startC, mIsi, tyD]
    simp [isTy, EqOk, eqD]
    exact k
  | str x =>
    simp only [mSeq, bnd, gv, DL.ret, hide, startD, asB, List.foldr_nil, List.foldr_cons, List.map_nil, List.map_cons, List.length_cons, List.length_nil, List.nil_append, List.cons_append, List.getD_cons_zero, List.getD_cons_succ, List.set_cons_zero, List.set_cons_succ, List.replicate_succ, List.replicate_zero, Nat.reduceAdd, Nat.reduceSub, m1, m2, mOrd, mGcd, mLcmD, mNeg, mDiv, mI2, mJ2, mAdd, mSub, mMul, mMulD, mMod, mIx, mTup, mLst, mCall, mLen, mEq, mNe, if_true, if_false, Bool.false_eq_true, reduceIte, ite_ap, at20, at21, at30, at31, at32, true_and, dec_true, mNext, mgName, mgTup, mgCons, mgNil, asEnum, asI, mSl, wipeD, setAll, startC, mIsi, tyD]
    simp [isTy, EqOk, eqD]
    exact k
  | tup xs =>
    obtain ⟨hn, hx⟩ := hx
    simp only [mSeq, bnd, gv, DL.ret, hide, startD, asB, List.foldr_nil, List.foldr_cons, List.map_nil, List.map_cons, List.length_cons, List.length_nil, List.nil_append, List.cons_append, List.getD_cons_zero, List.getD_cons_succ, List.set_cons_zero, List.set_cons_succ, List.replicate_succ, List.replicate_zero, Nat.reduceAdd, Nat.reduceSub, m1, m2, mOrd, mGcd, mLcmD, mNeg, mDiv, mI2, mJ2, mAdd, mSub, mMul, mMulD, mMod, mIx, mTup, mLst, mCall, mLen, mEq, mNe, if_true, if_false, Bool.false_eq_true, reduceIte, ite_ap, at20, at21, at30, at31, at32, true_and, dec_true, mNext, mgName, mgTup, mgCons, mgNil, asEnum, asI, mSl, wipeD, setAll, startC, mIsi, tyD]
    refine ⟨by decide, ?_⟩
    rw [if_pos (by decide)]
    refine ⟨by decide, ?_⟩
    rw [if_neg (by decide)]
    refine ⟨eqOk_int, ?_⟩
    rw [int_eq rfl, if_neg (by decide)]
    refine ⟨⟨by omega, by omega⟩, by rw [rangeD_len, sizeLine_eq]; omega, lcW_map (f := fun _ => .bl true) _ _ (fun d hd κ hk => ?_) ?_⟩
    · obtain ⟨i, hi, e⟩ := rangeD_mem hd
      subst e
      have hi : i < xs.length := by omega
      have e1 : xs[i]? = some xs[i] := List.getElem?_eq_getElem hi
      have e2 := atI_map (f := fun d => d) e1
      rw [List.map_id'] at e2
      simp only [mSeq, bnd, gv, DL.ret, hide, startD, asB, List.foldr_nil, List.foldr_cons, List.map_nil, List.map_cons, List.length_cons, List.length_nil, List.nil_append, List.cons_append, List.getD_cons_zero, List.getD_cons_succ, List.set_cons_zero, List.set_cons_succ, List.replicate_succ, List.replicate_zero, Nat.reduceAdd, Nat.reduceSub, m1, m2, mOrd, mGcd, mLcmD, mNeg, mDiv, mI2, mJ2, mAdd, mSub, mMul, mMulD, mMod, mIx, mTup, mLst, mCall, mLen, mEq, mNe, if_true, if_false, Bool.false_eq_true, reduceIte, ite_ap, at20, at21, at30, at31, at32, true_and, dec_true, mNext, mgName, mgTup, mgCons, mgNil, asEnum, asI, mSl, wipeD, setAll, startC, e2]
      exact ⟨_, rfl, hx _ (List.getElem_mem hi), hk⟩
    · rw [List.map_const', List.nil_append]
      exact all_true _ _ k
  | _ => exact hx.elim
theorem ok__law_same (T : Txt P w K mg base C) (g : GG) (hg : GOk K C g) : GF P w K mg base g "_law_same" 2 5 (sp_same 4) := sameS T g 3 (sameS T g 2 (sameS T g 1 (sameS T g 0 (same0 T g))))
abbrev s__law_well : Stmt := top 47
theorem sc__law_well : FnScope ["script", "lap", "stirred", "cell", "own"] ["script", "lap"] (defScope s__law_well) := ⟨rfl, rfl, rfl, by decide +kernel, rfl, by decide +kernel, by decide +kernel⟩
theorem okf__law_well (T : Txt P w K mg base C) (g : GG) {sa : Addr} {ns : List Int} (hS : ScrJ g K sa ns) {f : Addr} {fd : FuncData} (F : Fun K "_law_well" "_law_well" (top 47) f fd) : FnOk P w K mg base (L2.CX P w) 1 f fd ["script", "lap"] (spOf K g 2 (sp_well sa ns)) := by
  refine fun_okD F sc__law_well rfl [] (by decide) (fun cdv A outer s H E U Ed hr => ⟨_, (dss_cons (ds_set (i := 2) sc__law_well.nd (de_op opAdd rmAdd de_int (de_op opMul rmMul de_int (dv 1))))
      (dss_cons (ds_for bPass rfl (di_any rfl (de_sliceS hS rfl (dv 0) do_none (do_some de_int))) (dg_name 3 sc__law_well.nd) (dss_one (ds_set (i := 2) sc__law_well.nd (de_op op_modN rmMod (de_ct crInt rmInt T.n_int rfl (da_cons (de_op opAdd rmAdd (de_op opAdd rmAdd (de_op opMul rmMul (dv 2) de_int) (de_op op_modN rmMod (de_ct crInt rmInt T.n_int rfl (da_cons (dv 3) da_nil)) de_int)) de_int) da_nil)) de_int))) (fun _ => rfl))
      (dss_cons (ds_set (i := 4) sc__law_well.nd (de_if (dt_cmp opLt rmOrd (dv 1) (de_cb crLen (rmLenS hS) T.n_len rfl (da_cons (dv 0) da_nil))) (de_ct crInt rmInt T.n_int rfl (da_cons (de_ixS hS rfl (dv 0) (dv 1)) da_nil)) de_int))
      (dss_cons (ds_set (i := 2) sc__law_well.nd (de_op op_modN rmMod (de_ct crInt rmInt T.n_int rfl (da_cons (de_op opAdd rmAdd (de_op opAdd rmAdd (de_op opMul rmMul (dv 2) de_int) (de_op opMul rmMul (de_op op_modN rmMod (de_ct crInt rmInt T.n_int rfl (da_cons (dv 4) da_nil)) de_int) de_int)) de_int) da_nil)) de_int))
      (dss_one (ds_ret (de_lst (da_cons (de_if (dt_w (dw_or (dt_cmp opLt rmOrd (dv 4) de_int) (dw_or1 (dt_cmp opGe rmOrd (dv 4) (de_op op_pow rmPow de_int de_int))))) (de_cb crAbs rmAbs T.n_abs rfl (da_cons (dv 4) da_nil)) de_int) (da_cons (dv 2) (da_cons de_int da_nil))))))))))⟩) ?_
  intro ds Q E hl h
  obtain ⟨lap, rfl, h0, h1, k⟩ := h
  refine seqI fun N hN => ?_
  simp only [mSeq, bnd, gv, DL.ret, hide, startD, asB, List.foldr_nil, List.foldr_cons, List.map_nil, List.map_cons, List.length_cons, List.length_nil, List.nil_append, List.cons_append, List.getD_cons_zero, List.getD_cons_succ, List.set_cons_zero, List.set_cons_succ, List.replicate_succ, List.replicate_zero, Nat.reduceAdd, Nat.reduceSub, m1, m2, mOrd, mGcd, mLcmD, mNeg, mDiv, mI2, mJ2, mAdd, mSub, mMul, mMulD, mMod, mIx, mTup, mLst, mCall, mLen, mEq, mNe, if_true, if_false, Bool.false_eq_true, reduceIte, ite_ap, at20, at21, at30, at31, at32, true_and, dec_true, mNext, mgName, mgTup, mgCons, mgNil, asEnum, asI, mSl, wipeD, setAll, startC]
  refine ⟨mulOk_of (k := 20) (l := 20) (by decide) (by omega) (by decide), hN _ (seqI fun N hN => ?_)⟩
  simp only [mSeq, bnd, gv, DL.ret, hide, startD, asB, List.foldr_nil, List.foldr_cons, List.map_nil, List.map_cons, List.length_cons, List.length_nil, List.nil_append, List.cons_append, List.getD_cons_zero, List.getD_cons_succ, List.set_cons_zero, List.set_cons_succ, List.replicate_succ, List.replicate_zero, Nat.reduceAdd, Nat.reduceSub, m1, m2, mOrd, mGcd, mLcmD, mNeg, mDiv, mI2, mJ2, mAdd, mSub, mMul, mMulD, mMod, mIx, mTup, mLst, mCall, mLen, mEq, mNe, if_true, if_false, Bool.false_eq_true, reduceIte, ite_ap, at20, at21, at30, at31, at32, true_and, dec_true, mNext, mgName, mgTup, mgCons, mgNil, asEnum, asI, mSl, wipeD, setAll, startC, asItems, mSlS, mInt]
  refine (forW_ind (fun n ρ => ∃ (s : Int) (o : Option D), ρ = [some (.obj sa), some (.int lap), some (.int s), o, none] ∧ 0 ≤ s ∧ s < 10000000000) _ 0 _ ⟨_, none, rfl, by omega, by omega⟩ (fun i e ρ κ hie hI hk => ?_) (fun ρ hI => ?_))
  · obtain ⟨s, o, rfl, hs0, hs1⟩ := hI
    obtain ⟨c, hc, rfl⟩ := List.mem_map.mp (List.mem_of_getElem? hie)
    simp only [mSeq, bnd, gv, DL.ret, hide, startD, asB, List.foldr_nil, List.foldr_cons, List.map_nil, List.map_cons, List.length_cons, List.length_nil, List.nil_append, List.cons_append, List.getD_cons_zero, List.getD_cons_succ, List.set_cons_zero, List.set_cons_succ, List.replicate_succ, List.replicate_zero, Nat.reduceAdd, Nat.reduceSub, m1, m2, mOrd, mGcd, mLcmD, mNeg, mDiv, mI2, mJ2, mAdd, mSub, mMul, mMulD, mMod, mIx, mTup, mLst, mCall, mLen, mEq, mNe, if_true, if_false, Bool.false_eq_true, reduceIte, ite_ap, at20, at21, at30, at31, at32, true_and, dec_true, mNext, mgName, mgTup, mgCons, mgNil, asEnum, asI, mSl, wipeD, setAll, startC, mInt]
    refine ⟨mulOk_of (k := 40) (l := 40) (by omega) (by decide) (by decide), by decide, by decide, hk _ ⟨_, _, rfl, ?_, ?_⟩⟩
    · exact fmod_lo (by decide)
    · exact Int.lt_of_lt_of_le (fmod_hi (by decide)) (by decide)
  · obtain ⟨s, o, rfl, hs0, hs1⟩ := hI
    refine hN _ (seqI fun N hN => ?_)
    have fin : ∀ own : Int, N [some (.obj sa), some (.int lap), some (.int s), o, some (.int own)] := fun own => by
      refine hN _ (seqI fun N hN => ?_)
      simp only [mSeq, bnd, gv, DL.ret, hide, startD, asB, List.foldr_nil, List.foldr_cons, List.map_nil, List.map_cons, List.length_cons, List.length_nil, List.nil_append, List.cons_append, List.getD_cons_zero, List.getD_cons_succ, List.set_cons_zero, List.set_cons_succ, List.replicate_succ, List.replicate_zero, Nat.reduceAdd, Nat.reduceSub, m1, m2, mOrd, mGcd, mLcmD, mNeg, mDiv, mI2, mJ2, mAdd, mSub, mMul, mMulD, mMod, mIx, mTup, mLst, mCall, mLen, mEq, mNe, if_true, if_false, Bool.false_eq_true, reduceIte, ite_ap, at20, at21, at30, at31, at32, true_and, dec_true, mNext, mgName, mgTup, mgCons, mgNil, asEnum, asI, mSl, wipeD, setAll, startC, mInt]
      have h3 := fmod_lo (a := own) (b := 2147483549) (by decide)
      have h4 := fmod_hi (a := own) (b := 2147483549) (by decide)
      refine ⟨mulOk_of (k := 40) (l := 40) (by omega) (by decide) (by decide), by decide, mulOk_of (k := 40) (l := 40) (by omega) (by decide) (by decide), by decide, hN _ ?_⟩
      simp only [mSeq, bnd, gv, DL.ret, hide, startD, asB, List.foldr_nil, List.foldr_cons, List.map_nil, List.map_cons, List.length_cons, List.length_nil, List.nil_append, List.cons_append, List.getD_cons_zero, List.getD_cons_succ, List.set_cons_zero, List.set_cons_succ, List.replicate_succ, List.replicate_zero, Nat.reduceAdd, Nat.reduceSub, m1, m2, mOrd, mGcd, mLcmD, mNeg, mDiv, mI2, mJ2, mAdd, mSub, mMul, mMulD, mMod, mIx, mTup, mLst, mCall, mLen, mEq, mNe, if_true, if_false, Bool.false_eq_true, reduceIte, ite_ap, at20, at21, at30, at31, at32, true_and, dec_true, mNext, mgName, mgTup, mgCons, mgNil, asEnum, asI, mSl, wipeD, setAll, startC, mAbs]
      by_cases h5 : own < 0
      · rw [if_pos h5]
        exact ⟨three_le, k _ _ _⟩
      rw [if_neg h5]
      refine ⟨⟨by decide, by decide, by decide⟩, ?_⟩
      simp only [mSeq, bnd, gv, DL.ret, hide, startD, asB, List.foldr_nil, List.foldr_cons, List.map_nil, List.map_cons, List.length_cons, List.length_nil, List.nil_append, List.cons_append, List.getD_cons_zero, List.getD_cons_succ, List.set_cons_zero, List.set_cons_succ, List.replicate_succ, List.replicate_zero, Nat.reduceAdd, Nat.reduceSub, m1, m2, mOrd, mGcd, mLcmD, mNeg, mDiv, mI2, mJ2, mAdd, mSub, mMul, mMulD, mMod, mIx, mTup, mLst, mCall, mLen, mEq, mNe, if_true, if_false, Bool.false_eq_true, reduceIte, ite_ap, at20, at21, at30, at31, at32, true_and, dec_true, mNext, mgName, mgTup, mgCons, mgNil, asEnum, asI, mSl, wipeD, setAll, startC]
      by_cases h6 : (10 : Int) ^ (15 : Int).toNat ≤ own
      · rw [if_pos h6]
        exact ⟨three_le, k _ _ _⟩
      · rw [if_neg h6]
        exact ⟨three_le, k _ _ _⟩
    simp only [mSeq, bnd, gv, DL.ret, hide, startD, asB, List.foldr_nil, List.foldr_cons, List.map_nil, List.map_cons, List.length_cons, List.length_nil, List.nil_append, List.cons_append, List.getD_cons_zero, List.getD_cons_succ, List.set_cons_zero, List.set_cons_succ, List.replicate_succ, List.replicate_zero, Nat.reduceAdd, Nat.reduceSub, m1, m2, mOrd, mGcd, mLcmD, mNeg, mDiv, mI2, mJ2, mAdd, mSub, mMul, mMulD, mMod, mIx, mTup, mLst, mCall, mLen, mEq, mNe, if_true, if_false, Bool.false_eq_true, reduceIte, ite_ap, at20, at21, at30, at31, at32, true_and, dec_true, mNext, mgName, mgTup, mgCons, mgNil, asEnum, asI, mSl, wipeD, setAll, startC, mIxS, mLenS, mInt]
    by_cases h2 : lap < (ns.length : Int)
    · rw [if_pos h2]
      obtain ⟨v, _, _, e⟩ := atI_nat h0 h2
      rw [e]
      exact fin _
    · rw [if_neg h2]
      exact fin _
theorem ok__law_well (T : Txt P w K mg base C) (g : GG) {sa : Addr} {ns : List Int} (hS : ScrJ g K sa ns) : GF P w K mg base g "_law_well" 2 1 (sp_well sa ns) := by
  obtain ⟨f, fd, F, hm⟩ := T.F__law_well
  exact gf_of F hm (F.binds (ps := ["script", "lap"]) fun _ _ _ _ _ _ us hl => match us, hl with | [_, _], _ => rfl) (okf__law_well T g hS F)
abbrev s__law_right : Stmt := top 71
theorem sc__law_right : FnScope ["well", "parts", "purse", "awards", "due", "lack", "claim", "award"] ["well"] (defScope s__law_right) := ⟨rfl, rfl, rfl, by decide +kernel, rfl, by decide +kernel, by decide +kernel⟩
theorem PT_rats {d : Nat} {qs : List Rat} (h : qs.length ≤ 1000) : PT (d + 2) (.tup (qs.map rD)) := ⟨by rw [List.length_map]; exact h, fun x hx => by
  obtain ⟨q, _, rfl⟩ := List.mem_map.mp hx
  refine ⟨by simp, fun y hy => ?_⟩
  simp only [List.mem_cons, List.not_mem_nil, or_false] at hy
  rcases hy with rfl | rfl <;> cases d <;> exact trivial⟩
theorem getD_at {α : Type} {l : List α} {k : Nat} {d : α} (h : k < l.length) : l[k]? = some (l.getD k d) := by
  rw [List.getD_eq_getElem?_getD, List.getElem?_eq_getElem h]
  rfl
theorem even_of {cs : List Int} {m : Int} {qs : List Rat} (h : RuleAw cs m "even" qs) : Even (rats cs) (m : Rat) qs := by
  rcases h.inv with ⟨_, h⟩ | ⟨h, _⟩ | ⟨h, _⟩ | ⟨h, _⟩ | ⟨h, _⟩
  · exact h
  all_goals exact absurd h (by decide +kernel)
theorem losses_of {cs : List Int} {m : Int} {qs : List Rat} (h : RuleAw cs m "losses" qs) : ∃ ls, Even (rats cs) ((rats cs).sum - (m : Rat)) ls ∧ qs = lessL (rats cs) ls := by
  rcases h.inv with ⟨h, _⟩ | ⟨_, h⟩ | ⟨h, _⟩ | ⟨h, _⟩ | ⟨h, _⟩
  · exact absurd h (by decide +kernel)
  · exact h
  all_goals exact absurd h (by decide +kernel)
theorem okf__law_right (T : Txt P w K mg base C) (g : GG) (hg : GOk K C g) {f : Addr} {fd : FuncData} (F : Fun K "_law_right" "_law_right" (top 71) f fd) : FnOk P w K mg base (L2.CX P w) 14 f fd ["well"] (spOf K g 1 (sp_right C.Wl)) := by
  have G__law_purse := ok__law_purse (base := base) T g hg
  have G__law_draw := ok__law_draw (base := base) T g hg
  have G__law_made := ok__law_made (base := base) T g hg
  have G__law_awards := ok__law_awards (base := base) T g hg
  have G__law_other_awards := ok__law_other_awards (base := base) T g hg
  have G__law_minus := ok__law_minus (base := base) T g hg
  have G__law_same := ok__law_same (base := base) T g hg
  have G_losses_of := ok_losses_of (base := base) T g hg
  have G__law_sum := ok__law_sum (base := base) T g hg
  have Gk_losses_of_awards_purse := okk_losses_of_awards_purse (base := base) T g hg
  refine fun_okD F sc__law_right rfl [] (by decide) (fun cdv A outer s H E U Ed hr => ⟨_, (dss_cons (ds_set (i := 1) sc__law_right.nd (de_call G__law_purse hr (by omega) bTakes rfl (da_cons (dv 0) (da_cons (de_op opAdd rmAdd de_int (de_call G__law_draw hr (by omega) bTakes rfl (da_cons (dv 0) (da_cons de_int da_nil)))) da_nil))))
      (dss_cons (ds_set (i := 2) sc__law_right.nd (de_call G__law_made hr (by omega) bTakes rfl (da_cons (dv 1) da_nil)))
      (dss_cons (ds_for bPass rfl (di_any rfl (de_tup (da_cons (de_call G__law_other_awards hr (by omega) bTakes rfl (da_cons (dv 0) (da_cons (dv 1) da_nil))) (da_cons (de_call G__law_awards hr (by omega) bTakes rfl (da_cons (dv 1) (da_cons de_str da_nil))) (da_cons (de_call G__law_awards hr (by omega) bTakes rfl (da_cons (dv 1) (da_cons de_str da_nil))) da_nil))))) (dg_name 3 sc__law_right.nd) (dss_cons (ds_set (i := 4) sc__law_right.nd (de_ct crTup rmTup T.n_tuple rfl (da_cons (DF.de (df_lc rfl sc__law_right.nd (di_zip rfl T.n_zip (da_cons (de_ix rfl (dv 1) de_int) (da_cons (dv 3) da_nil))) (own := [("claim", 6), ("award", 7)]) (blk_of (N := ["well", "parts", "purse", "awards", "due", "lack", "claim", "award"]) (sc := defScope s__law_right) (by decide +kernel)) (fun s H C cl fp => (dge_tup (n := 2) rfl rfl (dges_cons 6 sc__law_right.nd (dges_cons 7 sc__law_right.nd dges_nil)))) (fun s H C cl fp => dts_nil) (fun s H C cl fp => (de_call G__law_minus hr (by omega) takesN rfl (da_cons (de_tup (da_cons (dv 6) (da_cons de_int da_nil))) (da_cons (dv 7) da_nil)))) (fun _ => rfl))) da_nil)))
      (dss_cons (ds_if (dt_not (dt_val (de_call G__law_same hr (by omega) bTakes rfl (da_cons (de_tup (da_cons (de_call G_losses_of hr (by omega) bTakes rfl (da_cons (dv 2) (da_cons (dv 3) da_nil))) (da_cons (de_callkw Gk_losses_of_awards_purse hr (by omega) bTakes rfl (dk_cons (dv 3) (dk_cons (dv 2) dk_nil))) da_nil))) (da_cons (de_tup (da_cons (dv 4) (da_cons (dv 4) da_nil))) da_nil))))) (dss_one (ds_ret de_bl)) dss_nil)
      (dss_one (ds_if (dt_cmp (opNe hr) rmNe (de_call G__law_sum hr (by omega) bTakes rfl (da_cons (de_call G_losses_of hr (by omega) bTakes rfl (da_cons (dv 2) (da_cons (dv 3) da_nil))) da_nil)) (de_tup (da_cons (de_op op_sub rmSub (de_cb (crSum rfl) rmInts T.n_sum rfl (da_cons (de_ix rfl (dv 1) de_int) da_nil)) (de_ix rfl (dv 1) de_int)) (da_cons de_int da_nil)))) (dss_one (ds_ret de_bl)) dss_nil)))) (fun _ => rfl))
      (dss_cons (ds_set (i := 5) sc__law_right.nd (de_tup (da_cons (de_ix rfl (dv 1) de_int) (da_cons (de_ix rfl (dv 1) de_int) (da_cons (de_op op_sub rmSub (de_cb (crSum rfl) rmInts T.n_sum rfl (da_cons (de_ix rfl (dv 1) de_int) da_nil)) (de_ix rfl (dv 1) de_int)) da_nil)))))
      (dss_one (ds_ret (de_call G__law_same hr (by omega) bTakes rfl (da_cons (de_call G_losses_of hr (by omega) bTakes rfl (da_cons (dv 2) (da_cons (de_call G__law_awards hr (by omega) bTakes rfl (da_cons (dv 1) (da_cons de_str da_nil))) da_nil))) (da_cons (de_call G__law_awards hr (by omega) bTakes rfl (da_cons (dv 5) (da_cons de_str da_nil))) da_nil)))))))))⟩) ?_
  intro ds Q E hl h
  obtain ⟨a, rfl, hW, k⟩ := h
  refine seqI fun N hN => ?_
  simp only [mSeq, bnd, gv, DL.ret, hide, startD, asB, List.foldr_nil, List.foldr_cons, List.map_nil, List.map_cons, List.length_cons, List.length_nil, List.nil_append, List.cons_append, List.getD_cons_zero, List.getD_cons_succ, List.set_cons_zero, List.set_cons_succ, List.replicate_succ, List.replicate_zero, Nat.reduceAdd, Nat.reduceSub, m1, m2, mOrd, mGcd, mLcmD, mNeg, mDiv, mI2, mJ2, mAdd, mSub, mMul, mMulD, mMod, mIx, mTup, mLst, mCall, mLen, mEq, mNe, if_true, if_false, Bool.false_eq_true, reduceIte, ite_ap, at20, at21, at30, at31, at32, true_and, dec_true, mNext, mgName, mgTup, mgCons, mgNil, asEnum, asI, mSl, wipeD, setAll, startC]
  refine ⟨a, 6, rfl, hW, by decide, by decide, fun r r0 r1 => ?_⟩
  refine ⟨a, 1 + r.toNat, ?_, hW, by omega, by omega, fun ns cs m hp hn => hN _ ?_⟩
  · congr 3
    omega
  clear hN N
  refine seqI fun N hN => ?_
  simp only [mSeq, bnd, gv, DL.ret, hide, startD, asB, List.foldr_nil, List.foldr_cons, List.map_nil, List.map_cons, List.length_cons, List.length_nil, List.nil_append, List.cons_append, List.getD_cons_zero, List.getD_cons_succ, List.set_cons_zero, List.set_cons_succ, List.replicate_succ, List.replicate_zero, Nat.reduceAdd, Nat.reduceSub, m1, m2, mOrd, mGcd, mLcmD, mNeg, mDiv, mI2, mJ2, mAdd, mSub, mMul, mMulD, mMod, mIx, mTup, mLst, mCall, mLen, mEq, mNe, if_true, if_false, Bool.false_eq_true, reduceIte, ite_ap, at20, at21, at30, at31, at32, true_and, dec_true, mNext, mgName, mgTup, mgCons, mgNil, asEnum, asI, mSl, wipeD, setAll, startC]
  refine ⟨ns, cs, m, rfl, hp, hN _ ?_⟩
  clear hN N
  refine seqI fun N hN => ?_
  have hC := hp.clOk
  have hl3 := hp.pe.l
  have hl4 := hp.cl
  have hm0 := hp.m0
  have hm1 := hp.m1
  have bdC : ∀ c ∈ cs, Bd 10 (c : Rat) := fun c hc => Bd.int (by have := hp.c c hc; omega) (by decide)
  have hsm : (rats cs).sum - (m : Rat) = ((cs.sum - m : Int) : Rat) := by rw [rats_sum, Rat.intCast_sub]
  simp only [mSeq, bnd, gv, DL.ret, hide, startD, asB, List.foldr_nil, List.foldr_cons, List.map_nil, List.map_cons, List.length_cons, List.length_nil, List.nil_append, List.cons_append, List.getD_cons_zero, List.getD_cons_succ, List.set_cons_zero, List.set_cons_succ, List.replicate_succ, List.replicate_zero, Nat.reduceAdd, Nat.reduceSub, m1, m2, mOrd, mGcd, mLcmD, mNeg, mDiv, mI2, mJ2, mAdd, mSub, mMul, mMulD, mMod, mIx, mTup, mLst, mCall, mLen, mEq, mNe, if_true, if_false, Bool.false_eq_true, reduceIte, ite_ap, at20, at21, at30, at31, at32, true_and, dec_true, mNext, mgName, mgTup, mgCons, mgNil, asEnum, asI, mSl, wipeD, setAll, startC]
  refine ⟨a, ns, cs, m, rfl, hW, hp, fun q1 h1 => ⟨ns, cs, m, "losses", rfl, by simp, hp, fun q2 r2 h2 => ⟨ns, cs, m, "halves", rfl, by simp, hp, fun q3 r3 h3 => ⟨three_le, ?_⟩⟩⟩⟩
  simp only [asItems]
  have items : ∀ d ∈ [D.tup (q1.map rD), D.tup (q2.map rD), D.tup (q3.map rD)], ∃ qs, d = .tup (qs.map rD) ∧ Aw cs m qs := fun d hd => by
    simp only [List.mem_cons, List.not_mem_nil, or_false] at hd
    rcases hd with rfl | rfl | rfl
    · exact ⟨_, rfl, h1⟩
    · exact ⟨_, rfl, h2⟩
    · exact ⟨_, rfl, h3⟩
  refine forW_ind (fun n ρ => ∃ o3 o4 : Option D, ρ = [some (.obj a), some (partsD ns cs m), some (purseD C.Purse ns cs m), o3, o4, none, none, none]) _ 0 _ ⟨none, none, rfl⟩ (fun i e ρ κ hie hI hk => ?_) (fun ρ hI => ?_)
  · obtain ⟨o3, o4, rfl⟩ := hI
    obtain ⟨qs, rfl, hA⟩ := items e (List.mem_of_getElem? hie)
    have hql := hA.len
    have ez : [] ++ (zipD (cs.map D.int) (qs.map rD)).map (fun d => match d with | .tup [.int c, b] => rD ((c : Rat) - ofD b) | d => d) = (lessL (rats cs) qs).map rD := by
      rw [List.nil_append]
      unfold zipD lessL
      rw [List.map_zipWith, List.map_zipWith, List.zipWith_map, List.zipWith_map_left]
      simp only [ofD_rD]
    have bdl : ∀ q ∈ lessL (rats cs) qs, Bd 100 q := fun q hq => by
      obtain ⟨c, l, hc, hl, rfl⟩ := lessL_mem hq
      obtain ⟨c', hc', rfl⟩ := List.mem_map.mp hc
      exact ((bdC c' hc').sub (hA.bd l hl)).mono (by decide)
    refine seqI fun N' hN' => ?_
    simp only [mSeq, bnd, gv, DL.ret, hide, startD, asB, List.foldr_nil, List.foldr_cons, List.map_nil, List.map_cons, List.length_cons, List.length_nil, List.nil_append, List.cons_append, List.getD_cons_zero, List.getD_cons_succ, List.set_cons_zero, List.set_cons_succ, List.replicate_succ, List.replicate_zero, Nat.reduceAdd, Nat.reduceSub, m1, m2, mOrd, mGcd, mLcmD, mNeg, mDiv, mI2, mJ2, mAdd, mSub, mMul, mMulD, mMod, mIx, mTup, mLst, mCall, mLen, mEq, mNe, if_true, if_false, Bool.false_eq_true, reduceIte, ite_ap, at20, at21, at30, at31, at32, true_and, dec_true, mNext, mgName, mgTup, mgCons, mgNil, asEnum, asI, mSl, wipeD, setAll, startC]
    refine ⟨by rw [sizeLine_eq]; simp [zipD]; omega, lcW_map (f := fun d => match d with | .tup [.int c, b] => rD ((c : Rat) - ofD b) | d => d) _ _ (fun d hd κ hk => ?_) ?_⟩
    · unfold zipD at hd
      obtain ⟨i, hi2, e⟩ := List.getElem_of_mem hd
      have hi3 : i < cs.length := by rw [List.length_zipWith, List.length_map] at hi2; omega
      rw [List.getElem_zipWith, List.getElem_map, List.getElem_map] at e
      subst e
      simp only [ofD_rD] at hk
      simp only [mSeq, bnd, gv, DL.ret, hide, startD, asB, List.foldr_nil, List.foldr_cons, List.map_nil, List.map_cons, List.length_cons, List.length_nil, List.nil_append, List.cons_append, List.getD_cons_zero, List.getD_cons_succ, List.set_cons_zero, List.set_cons_succ, List.replicate_succ, List.replicate_zero, Nat.reduceAdd, Nat.reduceSub, m1, m2, mOrd, mGcd, mLcmD, mNeg, mDiv, mI2, mJ2, mAdd, mSub, mMul, mMulD, mMod, mIx, mTup, mLst, mCall, mLen, mEq, mNe, if_true, if_false, Bool.false_eq_true, reduceIte, ite_ap, at20, at21, at30, at31, at32, true_and, dec_true, mNext, mgName, mgTup, mgCons, mgNil, asEnum, asI, mSl, wipeD, setAll, startC]
      exact ⟨two_le, ((cs[i] : Int) : Rat), _, rfl, (bdC _ (List.getElem_mem _)).mono (by decide), (hA.bd _ (List.getElem_mem _)).mono (by decide), trivial, hk⟩
    rw [ez]
    refine hN' _ ?_
    clear hN' N'
    refine seqI fun N' hN' => ?_
    simp only [mSeq, bnd, gv, DL.ret, hide, startD, asB, List.foldr_nil, List.foldr_cons, List.map_nil, List.map_cons, List.length_cons, List.length_nil, List.nil_append, List.cons_append, List.getD_cons_zero, List.getD_cons_succ, List.set_cons_zero, List.set_cons_succ, List.replicate_succ, List.replicate_zero, Nat.reduceAdd, Nat.reduceSub, m1, m2, mOrd, mGcd, mLcmD, mNeg, mDiv, mI2, mJ2, mAdd, mSub, mMul, mMulD, mMod, mIx, mTup, mLst, mCall, mLen, mEq, mNe, if_true, if_false, Bool.false_eq_true, reduceIte, ite_ap, at20, at21, at30, at31, at32, true_and, dec_true, mNext, mgName, mgTup, mgCons, mgNil, asEnum, asI, mSl, wipeD, setAll, startC]
    refine ⟨ns, cs, m, qs, rfl, hp, hA, rfl, ns, cs, m, qs, rfl, hp, hA, ?_⟩
    refine ⟨two_le, two_le, _, rfl, ⟨by simp, fun x hx => ?_⟩, ?_⟩
    · have hx : x = .tup ((lessL (rats cs) qs).map rD) := by simpa using hx
      subst hx
      exact PT_rats (by rw [List.length_zipWith, List.length_map]; omega)
    simp only [Bool.not_true]
    refine hN' _ ?_
    clear hN' N'
    simp only [mSeq, bnd, gv, DL.ret, hide, startD, asB, List.foldr_nil, List.foldr_cons, List.map_nil, List.map_cons, List.length_cons, List.length_nil, List.nil_append, List.cons_append, List.getD_cons_zero, List.getD_cons_succ, List.set_cons_zero, List.set_cons_succ, List.replicate_succ, List.replicate_zero, Nat.reduceAdd, Nat.reduceSub, m1, m2, mOrd, mGcd, mLcmD, mNeg, mDiv, mI2, mJ2, mAdd, mSub, mMul, mMulD, mMod, mIx, mTup, mLst, mCall, mLen, mEq, mNe, if_true, if_false, Bool.false_eq_true, reduceIte, ite_ap, at20, at21, at30, at31, at32, true_and, dec_true, mNext, mgName, mgTup, mgCons, mgNil, asEnum, asI, mSl, wipeD, setAll, startC]
    refine ⟨ns, cs, m, qs, rfl, hp, hA, _, _, rfl, rfl, bdl, by rw [List.length_zipWith, List.length_map]; omega, ?_⟩
    simp only [mSeq, bnd, gv, DL.ret, hide, startD, asB, List.foldr_nil, List.foldr_cons, List.map_nil, List.map_cons, List.length_cons, List.length_nil, List.nil_append, List.cons_append, List.getD_cons_zero, List.getD_cons_succ, List.set_cons_zero, List.set_cons_succ, List.replicate_succ, List.replicate_zero, Nat.reduceAdd, Nat.reduceSub, m1, m2, mOrd, mGcd, mLcmD, mNeg, mDiv, mI2, mJ2, mAdd, mSub, mMul, mMulD, mMod, mIx, mTup, mLst, mCall, mLen, mEq, mNe, if_true, if_false, Bool.false_eq_true, reduceIte, ite_ap, at20, at21, at30, at31, at32, true_and, dec_true, mNext, mgName, mgTup, mgCons, mgNil, asEnum, asI, mSl, wipeD, setAll, startC, mInts_tup]
    intro s hs
    subst hs
    have e1 : D.tup [.int (cs.sum - m), .int 1] = rD ((cs.sum - m : Int) : Rat) := rfl
    refine ⟨two_le, ?_⟩
    rw [lessL_sum (by rw [List.length_map]; omega), hA.sum, hsm, e1, EqOk_rD, eqD_rD, decide_eq_true rfl]
    exact ⟨trivial, hk _ ⟨_, _, rfl⟩⟩
  · obtain ⟨o3, o4, rfl⟩ := hI
    refine hN _ ?_
    clear hN N
    refine seqI fun N hN => ?_
    simp only [mSeq, bnd, gv, DL.ret, hide, startD, asB, List.foldr_nil, List.foldr_cons, List.map_nil, List.map_cons, List.length_cons, List.length_nil, List.nil_append, List.cons_append, List.getD_cons_zero, List.getD_cons_succ, List.set_cons_zero, List.set_cons_succ, List.replicate_succ, List.replicate_zero, Nat.reduceAdd, Nat.reduceSub, m1, m2, mOrd, mGcd, mLcmD, mNeg, mDiv, mI2, mJ2, mAdd, mSub, mMul, mMulD, mMod, mIx, mTup, mLst, mCall, mLen, mEq, mNe, if_true, if_false, Bool.false_eq_true, reduceIte, ite_ap, at20, at21, at30, at31, at32, true_and, dec_true, mNext, mgName, mgTup, mgCons, mgNil, asEnum, asI, mSl, wipeD, setAll, startC, mInts_tup]
    intro s hs
    subst hs
    refine ⟨three_le, hN _ ?_⟩
    clear hN N
    have hp' : PurseOk ns cs (cs.sum - m) := ⟨hp.pe, hp.cl, hp.c, by omega, by omega⟩
    simp only [mSeq, bnd, gv, DL.ret, hide, startD, asB, List.foldr_nil, List.foldr_cons, List.map_nil, List.map_cons, List.length_cons, List.length_nil, List.nil_append, List.cons_append, List.getD_cons_zero, List.getD_cons_succ, List.set_cons_zero, List.set_cons_succ, List.replicate_succ, List.replicate_zero, Nat.reduceAdd, Nat.reduceSub, m1, m2, mOrd, mGcd, mLcmD, mNeg, mDiv, mI2, mJ2, mAdd, mSub, mMul, mMulD, mMod, mIx, mTup, mLst, mCall, mLen, mEq, mNe, if_true, if_false, Bool.false_eq_true, reduceIte, ite_ap, at20, at21, at30, at31, at32, true_and, dec_true, mNext, mgName, mgTup, mgCons, mgNil, asEnum, asI, mSl, wipeD, setAll, startC]
    refine ⟨ns, cs, m, "losses", rfl, by simp, hp, fun ql rl hl => ⟨ns, cs, m, ql, rfl, hp, hl, ns, cs, cs.sum - m, "even", rfl, by simp, hp', fun qe re he => ?_⟩⟩
    obtain ⟨ls, hls, rfl⟩ := losses_of rl
    have hev := even_of re
    rw [← hsm] at hev
    have eq := hls.uniq hev
    have hle := hls.len
    rw [List.length_map] at hle
    have e2 : lessL (rats cs) (lessL (rats cs) ls) = ls := by
      refine List.ext_getElem (by rw [List.length_zipWith, List.length_zipWith, List.length_map]; omega) fun i h1 h2 => ?_
      rw [List.getElem_zipWith, List.getElem_zipWith]
      grind
    rw [e2, ← eq]
    exact ⟨_, rfl, PT_rats (by omega), k⟩
theorem ok__law_right (T : Txt P w K mg base C) (g : GG) (hg : GOk K C g) : GF P w K mg base g "_law_right" 1 14 (sp_right C.Wl) := by
  obtain ⟨f, fd, F, hm⟩ := T.F__law_right
  exact gf_of F hm (F.binds (ps := ["well"]) fun _ _ _ _ _ _ us hl => match us, hl with | [_], _ => rfl) (okf__law_right T g hg F)

end
end T1

namespace T1
open PySem PySem.Spec PyProof.Rows L2 DL LamX NdefX
section
variable {P : Program} {w : World} {K : PySem.W.Frag} {mg : Str → Option Value} {base : Heap} {C : Cons}
abbrev s_law : Stmt := top 72
theorem sc_law : FnScope ["script", "wells", "lap"] ["script"] (defScope s_law) := ⟨rfl, rfl, rfl, by decide +kernel, rfl, by decide +kernel, by decide +kernel⟩
structure WIx (K : PySem.W.Frag) where
  g : GG
  a : Addr
  ns : List Int
  hS : ScrJ g K a ns
theorem gok {K : PySem.W.Frag} {C : Cons} (A : List Addr) : GOk K (C.at (· ∈ A)) (wellG C.L.tabs A) := ⟨fun H j => j.2, fun p hp => .inr ⟨p, hp, rfl⟩, fun p hp H H1 j e t => wellG_j hp j e t, fun H a φ j h => wellG_x j h, wellG_w⟩
theorem fn_law (T : ∀ Wl, Txt P w K mg base (C.at Wl)) {f : Addr} {fd : FuncData} (F : Fun K "law" "law" s_law f fd) : FnOk P w K mg base (L2.CX P w) 15 f fd ["script"] (fun vs H Q E => ∃ (a : Addr) (ns : List Int), vs = [.ref a] ∧ ns.length ≤ 63 ∧ SqL K H a (ns.map V.int) ∧ (∀ p ∈ C.L.tabs, H p.1 = some (.tbl #[])) ∧ ∀ H', Q (.bl true) H') := by
  have T0 := T fun _ => False
  obtain ⟨fW, fdW, FW, hmW⟩ := T0.F__law_well
  obtain ⟨fR, fdR, FR, hmR⟩ := T0.F__law_right
  have GW : FnOk P w K mg base (L2.CX P w) 1 fW fdW ["script", "lap"] (fun vs H Q E => ∃ i : WIx K, spOf K i.g 2 (sp_well i.a i.ns) vs H Q E) := fn_any fun i => okf__law_well T0 i.g i.hS FW
  have GR : FnOk P w K mg base (L2.CX P w) 14 fR fdR ["well"] (fun vs H Q E => ∃ A : List Addr, spOf K (wellG C.L.tabs A) 1 (sp_right (· ∈ A)) vs H Q E) := fn_any fun A => okf__law_right (T (· ∈ A)) _ (gok A) FR
  refine F.okX sc_law (fun vs H Q E h => ?_) fun cdv A outer s H vs Q E hr hsp => ⟨tLaw K _ _ 15,
    pss_cons (ps_set (i := 1) sc_law.nd rfl (Or.inr rfl) (pe_lc (own := [("lap", 2)]) (g := gName 2) (tt := tYes) rfl sc_law.nd (pi_range1 rfl T0.n_range (pa_cons (pe_callB (call_max2 rfl) rfl T0.n_max (by decide +kernel) (pa_cons pe_int (pa_cons (pe_callB (call_min2 rfl) rfl T0.n_min (by decide +kernel) (pa_cons (pe_callB crLen rfl T0.n_len (by decide +kernel) (pa_cons (pv 0) pa_nil)) (pa_cons pe_int pa_nil))) pa_nil))) pa_nil))
        (blk_of (N := ["script", "wells", "lap"]) (sc := defScope s_law) (by decide +kernel)) (fun _ _ _ _ _ => pg_name (i := 2) sc_law.nd rfl (Or.inl rfl)) (fun _ _ _ _ _ => pts_nil)
        (fun _ _ _ _ _ => pe_call GW (hr.mono (by decide)) rfl hmW FW.kp (FW.binds (ps := ["script", "lap"]) fun _ _ _ _ _ _ us hl => match us, hl with | [_, _], _ => rfl) .nil passL (pa_cons (pv 0) (pa_cons (pv 2) pa_nil)))))
      (pss_one (ps_ret (pe_callB (cr_all rfl) rfl T0.n_all (by decide +kernel) (pa_cons (pe_lc (own := [("lap", 2)]) (g := gName 2) (tt := tYes) rfl sc_law.nd (pi_range1 rfl T0.n_range (pa_cons pe_int pa_nil))
        (blk_of (N := ["script", "wells", "lap"]) (sc := defScope s_law) (by decide +kernel)) (fun _ _ _ _ _ => pg_name (i := 2) sc_law.nd rfl (Or.inl rfl)) (fun _ _ _ _ _ => pts_nil)
        (fun _ _ _ _ _ => pe_call GR hr rfl hmR FR.kp (FR.binds (ps := ["well"]) fun _ _ _ _ _ _ us hl => match us, hl with | [_], _ => rfl) .nil passL (pa_cons (pe_ix ix_list (pv 1) (pe_op op_modN (pe_callTy crInt rfl T0.n_int (by decide +kernel) (pa_cons (pv 2) pa_nil)) (pe_callB crLen rfl T0.n_len (by decide +kernel) (pa_cons (pv 1) pa_nil))) (fun _ _ => rfl)) pa_nil))) pa_nil)))), ?_⟩
  · obtain ⟨a, ns, rfl, _⟩ := h
    rfl
  · obtain ⟨a, ns, rfl, hl, hS, hT, hQ⟩ := hsp
    exact law_read (T := C.L.tabs) hS hl (by decide) (by decide) (fun vs H Q E h => ⟨⟨_, a, ns, scrG_s hS⟩, h⟩) hT (fun A vs H Q E h => ⟨A, h⟩) hQ


end
end T1

namespace T1
open PySem PySem.Spec PyProof.Rows L2 DL LamX NdefX
section
variable {P : Program} {w : World} {K : PySem.W.Frag} {mg : Str → Option Value} {base : Heap} {C : Cons}
def dD (x : Str) (st : Stmt) : He.DefD := ⟨(x, none), x, x, defArgs st, defBody st, defScope st, [], []⟩
def dM (C x : Str) (st : Stmt) : He.DefD := ⟨(C, some x), x, C ++ "." ++ x, defArgs st, defBody st, defScope st, [], []⟩
def fn : List He.DefD := [dD "lowest" (top 24), dD "plus" (top 26), dD "minus" (top 27), dD "is_less" (top 28), dD "as_fraction" (top 30), dD "total" (top 29), dD "is_whole" (top 12), dD "is_between" (top 13), dD "is_up_to" (top 14), dD "is_word" (top 15), dD "is_name" (top 16), dD "are_below" (top 21), dD "is_tuple_of" (top 17), dD "wrong_in" (top 19), dD "wrong_in_all" (top 20), dD "wrong_in_people" (top 34), dD "wrong_in_claims" (top 35), dD "check_number" (top 41), dD "check_purse" (top 43), dD "claims_of" (top 36), dD "_law_divisor" (top 55), dD "_law_frac" (top 56), dD "_law_add" (top 57), dD "_law_times" (top 58), dD "_law_less" (top 59), dD "_law_by" (top 60), dD "_law_below" (top 61), dD "_law_minus" (top 62), dD "_law_sum" (top 63), dD "_law_draw" (top 48), dD "_law_of" (top 49), dD "_law_words" (top 52), dD "_law_own" (top 53), dD "_law_names" (top 54), dD "_law_even" (top 66), dD "is_pair" (top 18), dD "is_fraction" (top 25), dD "is_award" (top 37), dD "wrong_in_awards" (top 38), dD "losses_by" (top 39), dD "check_awards" (top 44), dD "losses_of" (top 45), dD "_law_purse" (top 64), dD "_law_made" (top 65), dD "_law_dealt" (top 68), dD "_law_awards" (top 69), dD "_law_shuffled" (top 50), dD "_law_other_awards" (top 70), dD "_law_same" (top 51), dD "_law_well" (top 47), dD "_law_right" (top 71), dD "law" (top 72), dM "Purse" "__init__" (inClass (top 42) 0)]
def gl0 : List Str := ["lowest", "plus", "minus", "is_less", "as_fraction", "total", "is_whole", "is_between", "is_up_to", "is_word", "is_name", "are_below", "is_tuple_of", "wrong_in", "wrong_in_all", "wrong_in_people", "wrong_in_claims", "check_number", "check_purse", "claims_of", "_law_divisor", "_law_frac", "_law_add", "_law_times", "_law_less", "_law_by", "_law_below", "_law_minus", "_law_sum", "_law_draw"]
def gl1 : List Str := ["_law_of", "_law_words", "_law_own", "_law_names", "_law_even", "is_pair", "is_fraction", "is_award", "wrong_in_awards", "losses_by", "check_awards", "losses_of", "_law_purse", "_law_made", "_law_dealt", "_law_awards", "_law_shuffled", "_law_other_awards", "_law_same", "_law_well", "_law_right", "law", "Purse"]
def gls : List Str := gl0 ++ (gl1)
def nms : List Str := gls ++ (["LETTERS", "MOST_CLAIM", "MOST_LETTERS", "MOST_PEOPLE", "NOTHING", "WORDS"] : List Str)
def frs : List Str := ["abs", "all", "bool", "divmod", "enumerate", "int", "isinstance", "len", "list", "max", "min", "range", "sorted", "str", "sum", "tuple", "zip"]
def fas : List He.Fa := [.mkr "Purse", .noat "Purse" "all_told"] ++ (gls.map He.Fa.glo ++ frs.map He.Fa.free)
def tss : List He.Tab := []
def vals : List (Str × He.Dv) := []
def tfs : List He.Defn := [("wrong_in_people", none), ("wrong_in_claims", none), ("wrong_in_all", none)]
def consts : List (Str × D) := [("LETTERS", .str LET), ("MOST_CLAIM", .int 99), ("MOST_LETTERS", .int 8), ("MOST_PEOPLE", .int 6), ("NOTHING", rD 0), ("WORDS", .tup wordsD)]
def bfs : List (Str × String) := [("gcd", "math.gcd")]
def prs : List (Str × Str) := [("Purse", "people"), ("Purse", "claims"), ("Purse", "money")]
def gss : List GetD := [⟨"Purse", "people", inClass (top 42) 1⟩, ⟨"Purse", "claims", inClass (top 42) 2⟩, ⟨"Purse", "money", inClass (top 42) 3⟩]
def exs (K : PySem.W.Frag) : Bool := consts.all (gkB K) && (bfs.all (bfB K) && (csfB K [He.ga K "Purse"] && (He.valsB K (He.ga K "AWARDS") vals && (prs.all (propB K) && (gss.all (fun d => fnKB K (getAd K d.cls d.name) d.qual) && tfs.all fun p => tfs.all fun q => decide (p = q) || !decide ((He.cT K p).2 = (He.cT K q).2))))))
theorem glo_in {x : Str} (h : x ∈ gls) : He.Fa.glo x ∈ fas := List.mem_append_right _ (List.mem_append_left _ (List.mem_map.mpr ⟨x, h, rfl⟩))
theorem free_in {x : Str} (h : x ∈ frs) : He.Fa.free x ∈ fas := List.mem_append_right _ (List.mem_append_right _ (List.mem_map.mpr ⟨x, h, rfl⟩))
abbrev Says (w : World) (h : Heap) (K : PySem.W.Frag) : Prop := SaysY fas fn tss tfs exs gss w h K
section
variable {w : World} {h : Heap} {K : PySem.W.Frag} {mg : Str → Option Value}
theorem df_ok (c : Says w h K) (i : Nat) {x : Str} {st : Stmt} (e : fn[i]? = some (dD x st)) : ∃ fd, Fun K x x st (He.ga K x) fd := by
  obtain ⟨fd, F⟩ := c.x.t.d.def_ i e
  exact ⟨fd, funD_fun F⟩
theorem dm_ok (c : Says w h K) (i : Nat) {C x : Str} {st : Stmt} (e : fn[i]? = some (dM C x st)) : ∃ fd, Fun K x (C ++ "." ++ x) st (He.ma K (He.ga K C) x) fd := by
  obtain ⟨fd, F⟩ := c.x.t.d.def_ i e
  exact ⟨fd, funD_fun F⟩
def consOf (K : PySem.W.Frag) (Wl : Addr → Prop) : Cons := { Purse := He.ga K "Purse", f_Purse_init := He.ma K (He.ga K "Purse") "__init__", AWARDS := He.ga K "AWARDS", L := { c_wrong_in_people := (He.cT K ("wrong_in_people", none)).1, p_wrong_in_people := (He.cT K ("wrong_in_people", none)).2, c_wrong_in_claims := (He.cT K ("wrong_in_claims", none)).1, p_wrong_in_claims := (He.cT K ("wrong_in_claims", none)).2, c_wrong_in_all := (He.cT K ("wrong_in_all", none)).1, p_wrong_in_all := (He.cT K ("wrong_in_all", none)).2 }, Wl := Wl }
theorem code_ok {x : Str} {st : Stmt} {f : Addr} {fd : FuncData} (F : Fun K x x st f fd) (e : f = He.ga K x) : fd.code = .ref (He.codeOf K (x, none)) := by
  obtain ⟨oc, od, kV, doc, pm, an, cdv, ct, osl, rfl, lk, hcd⟩ := F.ex
  obtain ⟨c, hc⟩ := He.codeIn_ref hcd
  subst e
  have hc2 : (PySem.W.fnOf x x (defArgs st) (defBody st) (defScope st) .none kV doc pm an cdv ct).code = .ref c := hc
  rw [He.codeOf_eq (p := (x, none)) lk hc2]
  exact hc2
theorem fun_one {x y : Str} {st : Stmt} {f : Addr} {fd : FuncData} (F : Fun K x x st f fd) (hb : ∀ (kV doc pm : Value) (an : Option Addr) (cdv ct : Value) (us : List Value), us.length = 1 → bindArgs (PySem.W.fnOf x x (defArgs st) (defBody st) (defScope st) .none kV doc pm an cdv ct) ⟨us, []⟩ = pure ([y].zip us)) (s : Shared) (u : Value) : BindsTo s fd ⟨[u], []⟩ [(y, u)] := by
  obtain ⟨oc, od, kV, doc, pm, an, cdv, ct, osl, rfl, lk, hcd⟩ := F.ex
  exact .of_eq (hb kV doc pm an cdv ct [u] rfl)
theorem same_ref {a b : Addr} (h : (some (Value.ref a) : Option Value) = some (.ref b)) : a = b := by
  cases h
  rfl
theorem txt_ok {base : Heap} {P : Program} (X : K.In base) (G : base.Ns mainGlobals mg) (c : Says w h K) (tb : ∀ p ∈ tfs, TabB base mg (He.cT K p).1 (He.cT K p).2) (Wl : Addr → Prop) : Txt P w K mg base (consOf K Wl) := by
  have glo : ∀ x, x ∈ gls → mg x = some (.ref (He.ga K x)) := fun x hx => He.glo_ok X G (c.x.t.d.facts (glo_in hx))
  have fre : ∀ x, x ∈ frs → mg x = none := fun x hx => He.free_ok X G (c.x.t.d.facts (free_in hx))
  obtain ⟨e1, e⟩ := He.ba c.x.more
  obtain ⟨e2, e⟩ := He.ba e
  obtain ⟨e3, e⟩ := He.ba e
  obtain ⟨e4, e⟩ := He.ba e
  obtain ⟨e5, e⟩ := He.ba e
  obtain ⟨e6, e7⟩ := He.ba e
  have cs := csfB_ok e3
  have con : ∀ (i : Nat) (x : Str) (d : D), consts[i]? = some (x, d) → GK K mg x d := fun i x d hi => gkB_ok X G (List.all_eq_true.mp e1 _ (List.mem_of_getElem? hi))
  have bf : ∀ (i : Nat) (x : Str) (n : String), bfs[i]? = some (x, n) → mg x = some (.builtin n) := fun i x n hi => bfB_ok X G (List.all_eq_true.mp e2 _ (List.mem_of_getElem? hi))
  have dis : ∀ p ∈ tfs, ∀ q ∈ tfs, p ≠ q → (He.cT K p).2 ≠ (He.cT K q).2 := fun p hp q hq n e => by
    have z := List.all_eq_true.mp (List.all_eq_true.mp e7 p hp) q hq
    simp [n, e] at z
  exact {
    cs := cs,
    c_Purse := glo _ (by decide +kernel),
    cl_Purse := (cs.cls _ (List.mem_singleton.mpr rfl)).cl,
    a_all_told := fun D hD => by rw [List.mem_singleton.mp hD]; exact ⟨(cs.cls _ (List.mem_singleton.mpr rfl)).cl, He.noat_ok (c.x.t.d.facts (f := .noat "Purse" "all_told") (List.mem_append_left _ (by simp)))⟩,
    f_gcd := bf 0 _ _ rfl,
    n_abs := fre _ (by decide +kernel),
    n_all := fre _ (by decide +kernel),
    n_bool := fre _ (by decide +kernel),
    n_divmod := fre _ (by decide +kernel),
    n_enumerate := fre _ (by decide +kernel),
    n_int := fre _ (by decide +kernel),
    n_isinstance := fre _ (by decide +kernel),
    n_len := fre _ (by decide +kernel),
    n_list := fre _ (by decide +kernel),
    n_max := fre _ (by decide +kernel),
    n_min := fre _ (by decide +kernel),
    n_range := fre _ (by decide +kernel),
    n_sorted := fre _ (by decide +kernel),
    n_str := fre _ (by decide +kernel),
    n_sum := fre _ (by decide +kernel),
    n_tuple := fre _ (by decide +kernel),
    n_zip := fre _ (by decide +kernel),
    g_LETTERS := con 0 _ _ rfl,
    g_MOST_CLAIM := con 1 _ _ rfl,
    g_MOST_LETTERS := con 2 _ _ rfl,
    g_MOST_PEOPLE := con 3 _ _ rfl,
    g_NOTHING := con 4 _ _ rfl,
    g_WORDS := con 5 _ _ rfl,
    F_lowest := by obtain ⟨fd, F⟩ := df_ok c 0 (x := "lowest") (st := top 24) rfl; exact ⟨_, fd, F, glo _ (by decide +kernel)⟩,
    F_plus := by obtain ⟨fd, F⟩ := df_ok c 1 (x := "plus") (st := top 26) rfl; exact ⟨_, fd, F, glo _ (by decide +kernel)⟩,
    F_minus := by obtain ⟨fd, F⟩ := df_ok c 2 (x := "minus") (st := top 27) rfl; exact ⟨_, fd, F, glo _ (by decide +kernel)⟩,
    F_is_less := by obtain ⟨fd, F⟩ := df_ok c 3 (x := "is_less") (st := top 28) rfl; exact ⟨_, fd, F, glo _ (by decide +kernel)⟩,
    F_as_fraction := by obtain ⟨fd, F⟩ := df_ok c 4 (x := "as_fraction") (st := top 30) rfl; exact ⟨_, fd, F, glo _ (by decide +kernel)⟩,
    F_total := by obtain ⟨fd, F⟩ := df_ok c 5 (x := "total") (st := top 29) rfl; exact ⟨_, fd, F, glo _ (by decide +kernel)⟩,
    F_is_whole := by obtain ⟨fd, F⟩ := df_ok c 6 (x := "is_whole") (st := top 12) rfl; exact ⟨_, fd, F, glo _ (by decide +kernel)⟩,
    F_is_between := by obtain ⟨fd, F⟩ := df_ok c 7 (x := "is_between") (st := top 13) rfl; exact ⟨_, fd, F, glo _ (by decide +kernel)⟩,
    F_is_up_to := by obtain ⟨fd, F⟩ := df_ok c 8 (x := "is_up_to") (st := top 14) rfl; exact ⟨_, fd, F, glo _ (by decide +kernel)⟩,
    F_is_word := by obtain ⟨fd, F⟩ := df_ok c 9 (x := "is_word") (st := top 15) rfl; exact ⟨_, fd, F, glo _ (by decide +kernel)⟩,
    F_is_name := by obtain ⟨fd, F⟩ := df_ok c 10 (x := "is_name") (st := top 16) rfl; exact ⟨_, fd, F, glo _ (by decide +kernel)⟩,
    F_are_below := by obtain ⟨fd, F⟩ := df_ok c 11 (x := "are_below") (st := top 21) rfl; exact ⟨_, fd, F, glo _ (by decide +kernel)⟩,
    F_is_tuple_of := by obtain ⟨fd, F⟩ := df_ok c 12 (x := "is_tuple_of") (st := top 17) rfl; exact ⟨_, fd, F, glo _ (by decide +kernel)⟩,
    F_wrong_in := by obtain ⟨fd, F⟩ := df_ok c 13 (x := "wrong_in") (st := top 19) rfl; exact ⟨_, fd, F, glo _ (by decide +kernel)⟩,
    F_wrong_in_all := by obtain ⟨fd, F⟩ := df_ok c 14 (x := "wrong_in_all") (st := top 20) rfl; exact ⟨_, fd, F, glo _ (by decide +kernel)⟩,
    F_wrong_in_people := by obtain ⟨fd, F⟩ := df_ok c 15 (x := "wrong_in_people") (st := top 34) rfl; exact ⟨_, fd, F, glo _ (by decide +kernel)⟩,
    F_wrong_in_claims := by obtain ⟨fd, F⟩ := df_ok c 16 (x := "wrong_in_claims") (st := top 35) rfl; exact ⟨_, fd, F, glo _ (by decide +kernel)⟩,
    F_check_number := by obtain ⟨fd, F⟩ := df_ok c 17 (x := "check_number") (st := top 41) rfl; exact ⟨_, fd, F, glo _ (by decide +kernel)⟩,
    F_check_purse := by obtain ⟨fd, F⟩ := df_ok c 18 (x := "check_purse") (st := top 43) rfl; exact ⟨_, fd, F, glo _ (by decide +kernel)⟩,
    F_claims_of := by obtain ⟨fd, F⟩ := df_ok c 19 (x := "claims_of") (st := top 36) rfl; exact ⟨_, fd, F, glo _ (by decide +kernel)⟩,
    F__law_divisor := by obtain ⟨fd, F⟩ := df_ok c 20 (x := "_law_divisor") (st := top 55) rfl; exact ⟨_, fd, F, glo _ (by decide +kernel)⟩,
    F__law_frac := by obtain ⟨fd, F⟩ := df_ok c 21 (x := "_law_frac") (st := top 56) rfl; exact ⟨_, fd, F, glo _ (by decide +kernel)⟩,
    F__law_add := by obtain ⟨fd, F⟩ := df_ok c 22 (x := "_law_add") (st := top 57) rfl; exact ⟨_, fd, F, glo _ (by decide +kernel)⟩,
    F__law_times := by obtain ⟨fd, F⟩ := df_ok c 23 (x := "_law_times") (st := top 58) rfl; exact ⟨_, fd, F, glo _ (by decide +kernel)⟩,
    F__law_less := by obtain ⟨fd, F⟩ := df_ok c 24 (x := "_law_less") (st := top 59) rfl; exact ⟨_, fd, F, glo _ (by decide +kernel)⟩,
    F__law_by := by obtain ⟨fd, F⟩ := df_ok c 25 (x := "_law_by") (st := top 60) rfl; exact ⟨_, fd, F, glo _ (by decide +kernel)⟩,
    F__law_below := by obtain ⟨fd, F⟩ := df_ok c 26 (x := "_law_below") (st := top 61) rfl; exact ⟨_, fd, F, glo _ (by decide +kernel)⟩,
    F__law_minus := by obtain ⟨fd, F⟩ := df_ok c 27 (x := "_law_minus") (st := top 62) rfl; exact ⟨_, fd, F, glo _ (by decide +kernel)⟩,
    F__law_sum := by obtain ⟨fd, F⟩ := df_ok c 28 (x := "_law_sum") (st := top 63) rfl; exact ⟨_, fd, F, glo _ (by decide +kernel)⟩,
    F__law_draw := by obtain ⟨fd, F⟩ := df_ok c 29 (x := "_law_draw") (st := top 48) rfl; exact ⟨_, fd, F, glo _ (by decide +kernel)⟩,
    F__law_of := by obtain ⟨fd, F⟩ := df_ok c 30 (x := "_law_of") (st := top 49) rfl; exact ⟨_, fd, F, glo _ (by decide +kernel)⟩,
    F__law_words := by obtain ⟨fd, F⟩ := df_ok c 31 (x := "_law_words") (st := top 52) rfl; exact ⟨_, fd, F, glo _ (by decide +kernel)⟩,
    F__law_own := by obtain ⟨fd, F⟩ := df_ok c 32 (x := "_law_own") (st := top 53) rfl; exact ⟨_, fd, F, glo _ (by decide +kernel)⟩,
    F__law_names := by obtain ⟨fd, F⟩ := df_ok c 33 (x := "_law_names") (st := top 54) rfl; exact ⟨_, fd, F, glo _ (by decide +kernel)⟩,
    F__law_even := by obtain ⟨fd, F⟩ := df_ok c 34 (x := "_law_even") (st := top 66) rfl; exact ⟨_, fd, F, glo _ (by decide +kernel)⟩,
    F_is_pair := by obtain ⟨fd, F⟩ := df_ok c 35 (x := "is_pair") (st := top 18) rfl; exact ⟨_, fd, F, glo _ (by decide +kernel)⟩,
    F_is_fraction := by obtain ⟨fd, F⟩ := df_ok c 36 (x := "is_fraction") (st := top 25) rfl; exact ⟨_, fd, F, glo _ (by decide +kernel)⟩,
    F_is_award := by obtain ⟨fd, F⟩ := df_ok c 37 (x := "is_award") (st := top 37) rfl; exact ⟨_, fd, F, glo _ (by decide +kernel)⟩,
    F_wrong_in_awards := by obtain ⟨fd, F⟩ := df_ok c 38 (x := "wrong_in_awards") (st := top 38) rfl; exact ⟨_, fd, F, glo _ (by decide +kernel)⟩,
    F_losses_by := by obtain ⟨fd, F⟩ := df_ok c 39 (x := "losses_by") (st := top 39) rfl; exact ⟨_, fd, F, glo _ (by decide +kernel)⟩,
    F_check_awards := by obtain ⟨fd, F⟩ := df_ok c 40 (x := "check_awards") (st := top 44) rfl; exact ⟨_, fd, F, glo _ (by decide +kernel)⟩,
    F_losses_of := by obtain ⟨fd, F⟩ := df_ok c 41 (x := "losses_of") (st := top 45) rfl; exact ⟨_, fd, F, glo _ (by decide +kernel)⟩,
    F__law_purse := by obtain ⟨fd, F⟩ := df_ok c 42 (x := "_law_purse") (st := top 64) rfl; exact ⟨_, fd, F, glo _ (by decide +kernel)⟩,
    F__law_made := by obtain ⟨fd, F⟩ := df_ok c 43 (x := "_law_made") (st := top 65) rfl; exact ⟨_, fd, F, glo _ (by decide +kernel)⟩,
    F__law_dealt := by obtain ⟨fd, F⟩ := df_ok c 44 (x := "_law_dealt") (st := top 68) rfl; exact ⟨_, fd, F, glo _ (by decide +kernel)⟩,
    F__law_awards := by obtain ⟨fd, F⟩ := df_ok c 45 (x := "_law_awards") (st := top 69) rfl; exact ⟨_, fd, F, glo _ (by decide +kernel)⟩,
    F__law_shuffled := by obtain ⟨fd, F⟩ := df_ok c 46 (x := "_law_shuffled") (st := top 50) rfl; exact ⟨_, fd, F, glo _ (by decide +kernel)⟩,
    F__law_other_awards := by obtain ⟨fd, F⟩ := df_ok c 47 (x := "_law_other_awards") (st := top 70) rfl; exact ⟨_, fd, F, glo _ (by decide +kernel)⟩,
    F__law_same := by obtain ⟨fd, F⟩ := df_ok c 48 (x := "_law_same") (st := top 51) rfl; exact ⟨_, fd, F, glo _ (by decide +kernel)⟩,
    F__law_well := by obtain ⟨fd, F⟩ := df_ok c 49 (x := "_law_well") (st := top 47) rfl; exact ⟨_, fd, F, glo _ (by decide +kernel)⟩,
    F__law_right := by obtain ⟨fd, F⟩ := df_ok c 50 (x := "_law_right") (st := top 71) rfl; exact ⟨_, fd, F, glo _ (by decide +kernel)⟩,
    F_Purse_init := dm_ok c 52 (C := "Purse") (x := "__init__") (st := inClass (top 42) 0) rfl,
    M_Purse := He.mkr_ok (c.x.t.d.facts (f := .mkr "Purse") (List.mem_append_left _ (by simp))),
    P_Purse_people := by obtain ⟨fd, F⟩ := c.getter (d := ⟨"Purse", "people", inClass (top 42) 1⟩) (by simp [gss]) (List.all_eq_true.mp e6 _ (by simp [gss])); exact ⟨_, _, fd, propB_ok (List.all_eq_true.mp e5 _ (by simp [prs])), F⟩,
    P_Purse_claims := by obtain ⟨fd, F⟩ := c.getter (d := ⟨"Purse", "claims", inClass (top 42) 2⟩) (by simp [gss]) (List.all_eq_true.mp e6 _ (by simp [gss])); exact ⟨_, _, fd, propB_ok (List.all_eq_true.mp e5 _ (by simp [prs])), F⟩,
    P_Purse_money := by obtain ⟨fd, F⟩ := c.getter (d := ⟨"Purse", "money", inClass (top 42) 3⟩) (by simp [gss]) (List.all_eq_true.mp e6 _ (by simp [gss])); exact ⟨_, _, fd, propB_ok (List.all_eq_true.mp e5 _ (by simp [prs])), F⟩,
    tb_wrong_in_people := tb ("wrong_in_people", none) (by simp [tfs]),
    cd_wrong_in_people := fun {f fd} hf F => code_ok F (same_ref (hf.symm.trans (glo "wrong_in_people" (by decide +kernel)))),
    hu_wrong_in_people := fun p hp e => by
      have hp : p ∈ [((consOf K Wl).L.p_wrong_in_people, lamName "wrong_in_people"), ((consOf K Wl).L.p_wrong_in_claims, lamName "wrong_in_claims"), ((consOf K Wl).L.p_wrong_in_all, lamName "wrong_in_all")] := hp
      simp only [List.mem_cons, List.not_mem_nil, or_false] at hp
      rcases hp with rfl | rfl | rfl
      · exact rfl
      · exact absurd e (dis ("wrong_in_claims", none) (by simp [tfs]) ("wrong_in_people", none) (by simp [tfs]) (by decide +kernel))
      · exact absurd e (dis ("wrong_in_all", none) (by simp [tfs]) ("wrong_in_people", none) (by simp [tfs]) (by decide +kernel)),
    tb_wrong_in_claims := tb ("wrong_in_claims", none) (by simp [tfs]),
    cd_wrong_in_claims := fun {f fd} hf F => code_ok F (same_ref (hf.symm.trans (glo "wrong_in_claims" (by decide +kernel)))),
    hu_wrong_in_claims := fun p hp e => by
      have hp : p ∈ [((consOf K Wl).L.p_wrong_in_people, lamName "wrong_in_people"), ((consOf K Wl).L.p_wrong_in_claims, lamName "wrong_in_claims"), ((consOf K Wl).L.p_wrong_in_all, lamName "wrong_in_all")] := hp
      simp only [List.mem_cons, List.not_mem_nil, or_false] at hp
      rcases hp with rfl | rfl | rfl
      · exact absurd e (dis ("wrong_in_people", none) (by simp [tfs]) ("wrong_in_claims", none) (by simp [tfs]) (by decide +kernel))
      · exact rfl
      · exact absurd e (dis ("wrong_in_all", none) (by simp [tfs]) ("wrong_in_claims", none) (by simp [tfs]) (by decide +kernel)),
    tb_wrong_in_all := tb ("wrong_in_all", none) (by simp [tfs]),
    cd_wrong_in_all := fun {f fd} hf F => code_ok F (same_ref (hf.symm.trans (glo "wrong_in_all" (by decide +kernel)))),
    hu_wrong_in_all := fun p hp e => by
      have hp : p ∈ [((consOf K Wl).L.p_wrong_in_people, lamName "wrong_in_people"), ((consOf K Wl).L.p_wrong_in_claims, lamName "wrong_in_claims"), ((consOf K Wl).L.p_wrong_in_all, lamName "wrong_in_all")] := hp
      simp only [List.mem_cons, List.not_mem_nil, or_false] at hp
      rcases hp with rfl | rfl | rfl
      · exact absurd e (dis ("wrong_in_people", none) (by simp [tfs]) ("wrong_in_all", none) (by simp [tfs]) (by decide +kernel))
      · exact absurd e (dis ("wrong_in_claims", none) (by simp [tfs]) ("wrong_in_all", none) (by simp [tfs]) (by decide +kernel))
      · exact rfl }
def lo0 : List Str := ["gcd", "ClaimError", "InvalidNumber", "NotAPurse", "InvalidPeople", "InvalidClaims", "InvalidAwards", "LETTERS", "MOST_LETTERS", "WORDS", "is_whole", "is_between", "is_up_to", "is_word", "is_name", "is_tuple_of", "is_pair", "wrong_in", "wrong_in_all", "are_below", "NOTHING", "lowest", "is_fraction", "plus", "minus", "is_less", "total", "as_fraction", "MOST_PEOPLE", "MOST_CLAIM"]
def lo1 : List Str := ["wrong_in_people", "wrong_in_claims", "claims_of", "is_award", "wrong_in_awards", "losses_by", "check_number", "Purse", "check_purse", "check_awards", "losses_of", "_law_well", "_law_draw", "_law_of", "_law_shuffled", "_law_same", "_law_words", "_law_own", "_law_names", "_law_divisor", "_law_frac", "_law_add", "_law_times", "_law_less", "_law_by", "_law_below", "_law_minus", "_law_sum", "_law_purse", "_law_made"]
def lo2 : List Str := ["_law_even", "_law_orders", "_law_dealt", "_law_awards", "_law_other_awards", "_law_right"]
def loose : List Str := lo0 ++ (lo1 ++ (lo2))
theorem law_at (X : K.In h) (G : h.Ns mainGlobals mg) {fa : Addr} (hfa : mg "law" = some (.ref fa)) (c : Says w h K) : LawAtS PySem.Challenge.rw_claimpurse_k04_whole_losses w K (L2.CX (PySem.Challenge.rw_claimpurse_k04_whole_losses).prog w) 15 63 "script" mg fa h := by
  have e := same_ref (hfa.symm.trans (He.glo_ok X G (c.x.t.d.facts (glo_in (x := "law") (by decide +kernel)))))
  subst e
  obtain ⟨fd, F⟩ := df_ok c 51 (x := "law") (st := top 72) rfl
  have hL : ∀ (Wl : Addr → Prop), ∀ q ∈ (consOf K Wl).L.tabs, ∃ p ∈ tfs, q.1 = (He.cT K p).2 := fun Wl q hq => by
    have hq : q ∈ [((consOf K Wl).L.p_wrong_in_people, lamName "wrong_in_people"), ((consOf K Wl).L.p_wrong_in_claims, lamName "wrong_in_claims"), ((consOf K Wl).L.p_wrong_in_all, lamName "wrong_in_all")] := hq
    simp only [List.mem_cons, List.not_mem_nil, or_false] at hq
    rcases hq with rfl | rfl | rfl
    · exact ⟨("wrong_in_people", none), by simp [tfs], rfl⟩
    · exact ⟨("wrong_in_claims", none), by simp [tfs], rfl⟩
    · exact ⟨("wrong_in_all", none), by simp [tfs], rfl⟩
  refine ⟨fd, tfs.map (He.cT K), _, fun p hp => ?_, fun p hp => ?_, fun p hp => ?_, fun s u => ?_, fun H a ns hl hb hT hS => ?_, fun base hK hN hB => fn_law (C := consOf K fun _ => False) (fun Wl => txt_ok hK hN c (fun p hp => hB _ (List.mem_map.mpr ⟨p, hp, rfl⟩)) Wl) F⟩
  · obtain ⟨q, hq, e⟩ := List.mem_map.mp hp
    rw [← e]
    exact c.x.empty q hq
  · obtain ⟨q, hq, e⟩ := List.mem_map.mp hp
    rw [← e]
    exact c.x.out q hq
  · obtain ⟨q, hq, e⟩ := List.mem_map.mp hp
    rw [← e]
    exact PySem.W.codeHd_of_K X (c.x.hd q hq)
  · exact fun_one F (fun _ _ _ _ _ _ us hl => match us, hl with | [_], _ => rfl) s u
  · exact ⟨a, ns, rfl, hl, hS, fun q hq => by
      obtain ⟨p, hp, e⟩ := hL _ q hq
      rw [e]
      exact hT _ (List.mem_map.mpr ⟨p, hp, rfl⟩), fun H' => rfl⟩
end


end
end T1

namespace T1
open PySem PySem.Spec PyProof.Rows L2 DL LamX NdefX
section
variable {P : Program} {w : World} {K : PySem.W.Frag} {mg : Str → Option Value} {base : Heap} {C : Cons}
abbrev R : PySem.W.OpenRow := PySem.W.OpenLaw.row PySem.Challenge.rw_claimpurse_k04_whole_losses
abbrev hk : PySem.W.Hook := hookY 6 nms fas fn tss tfs exs gss
def ob (s : PySem.W.SharedT) : AlY := obsY 6 nms fas fn tss tfs exs gss (HandSHeadRun.getT s)
theorem ob_eq (s : PySem.W.SharedT) : ob s = hk.obs s.abs := obsY_eq (HandSHeadRun.getT_eq s)
theorem run_f (w : World) : HandSHeadRun.RunEqI R (PySem.W.view R.prog [0, 72]) hk ob 8000 loose (w.withFollow "special-get-raises" false) := by
  unfold HandSHeadRun.RunEqI
  kernel_rfl
theorem run_t (w : World) : HandSHeadRun.RunEqI R (PySem.W.view R.prog [0, 72]) hk ob 8000 loose (w.withFollow "special-get-raises" true) := by
  unfold HandSHeadRun.RunEqI
  kernel_rfl
theorem run (w : World) : HandSHeadRun.RunEqI R (PySem.W.view R.prog [0, 72]) hk ob 8000 loose w := PySem.W.byRow2 "special-get-raises" run_f run_t w


end
end T1

namespace T1
open PySem PySem.Spec PyProof.Rows L2 DL LamX NdefX
section
variable {P : Program} {w : World} {K : PySem.W.Frag} {mg : Str → Option Value} {base : Heap} {C : Cons}

end
end T1
open PySem PySem.W PySem.Calls PyProof.Rows in
theorem PySem.Challenge.cw_claimpurse_k04_whole_losses_holds : PySem.Challenge.rw_claimpurse_k04_whole_losses.Holds := by
  w_on; o_law
  refine HandSHeadRun.head_imp (r := OpenLaw.row PySem.Challenge.rw_claimpurse_k04_whole_losses) (q := view (OpenLaw.row PySem.Challenge.rw_claimpurse_k04_whole_losses).prog [0, 72]) (H := T1.hk) (ob := T1.ob) (M := 8000) (loose := T1.loose) (d := HandSHeadRun.topDef (OpenLaw.row PySem.Challenge.rw_claimpurse_k04_whole_losses).prog 72) (kwd := []) T1.ob_eq T1.run
    (by kernel_rfl) (by kernel_rfl) (by kernel_rfl) (by rfl) (by first | assumption | decide +kernel) (by decide +kernel) ⟨rfl, rfl, rfl, rfl, rfl, by decide +kernel⟩ ?hw ?hc
  case hw => w_witness2
  case hc =>
    refine LamX.walk_ofTsE (l := PySem.Challenge.rw_claimpurse_k04_whole_losses) (n := 63) (k := 15) (x := "script") (CX := L2.CX (PySem.Challenge.rw_claimpurse_k04_whole_losses).prog) rfl (by decide) (by kernel_rfl) ⟨rfl, by decide, by decide⟩ ?F ?E
    case F =>
      intro w mg fa h Y G hmg0
      obtain ⟨K, KX, c⟩ := Y
      have hmg : mg ("law" : PySem.Str) = some (.ref fa) := by
        have e : (HandSHeadRun.topDef (OpenLaw.row PySem.Challenge.rw_claimpurse_k04_whole_losses).prog 72).name = ("law" : PySem.Str) := by kernel_rfl
        rw [← e]
        exact hmg0
      exact ⟨K, KX, T1.law_at KX G hmg c⟩
    case E =>
      intro w H s e s' z
      obtain ⟨_, _, _, _, _, _, _, _, _, _, _, _, q⟩ := z
      exact q.elim
namespace T1
section

end
end T1

